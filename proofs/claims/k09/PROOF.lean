import PyProof.Rows.All
import Wide.All
import OpenK.AllK
import Wide.FinOn
import HandS.Base
import HandS.Call
import HandS.List
import HandS.Comp
import HandS.Exc
import HandS.EndTab
import HandS.ExcIs
import KE.KDictKeyed
import HandS.TupAny
import HandS.Text
import HandS.TupMul
import HandS.IsInst
import HandS.StrMore
import HandS.Wide
import HandS.Style
import HandS.Iter
import HandS.Deep
import HandS.Ends
import HandS.Words
import HandS.ExcOwn
import PyProof.StrBlock2
import KE.SortData
import KE.KExcIs
import KE.GoesMore
import HandS.Zip
import HandS.WordsExc
import HandS.SortInts
import HandS.New0
import HandS.Nested
import HandS.SetFor
import HandS.Strs
import PyProof.SetRoads
import KE.IntTextLaws
import HandS.Dict
import HandS.Defaults
import HandS.TupSets
import KE.KeyNested
import HandS.Conv
import HandS.ExcInit
import HandS.ExcField
import KE.KIndexOf
import HandS.TryOnly
import HandS.RaiseMore
import KE.OsRunLaw
import HandS.TryMany
import HandS.Flow
import KE.KDictSum
import KE.KDictDisplayH
import KE.KDictPairs
import KE.KDictCopyH
import HandS.SortKw
import KE.SortKeyHeap
import PyProof.NeKinds
import PyProof.AutoSeq1
import KE.DataCmp
import KE.KTryMore
import PyProof.ReprRoads
import HandS.EndBits
import PyProof.ReprLen
import PyProof.Rows.ReprOcc
import PySem.Challenge.RW_wishwords_k09_whole_bounds_of_tables
set_option Elab.async false
set_option linter.all false
set_option maxRecDepth 100000
set_option maxHeartbeats 4000000
theorem pTW : PySem.Challenge.rw_wishwords_k09_whole_bounds_of_tables.row.prog.tablesWhole = true := by decide +kernel
namespace HX
open PySem PySem.W PySem.Calls PyProof.Rows
def kT (K : Params → Frag) (ts : List Addr) : Params → Frag := fun P => K P ++ ts.map fun p => (p, tabObj #[])
theorem in_of {K : Params → Frag} {ts as : List Addr} {e : ∀ P, as = (kT K ts P).map (·.1)} {w : World} {h : Heap} (Y : (kHook (kT K ts) as e).says w h) : (K w.params).In h := fun a o q => Y a o (by
  show List.lookup a (K w.params ++ _) = some o
  rw [List.lookup_append, q]; rfl)
def pick (l : List Stmt) (ks : List Nat) : List Stmt := ks.filterMap fun k => l[k]?
theorem cut3 {σ β γ : Type} {o : Option σ} {f : σ → Bool} {g : σ → β} {k : σ → γ} {b : Bool} {c : β} {d : γ} (h1 : o.map f = some b) (h2 : o.map g = some c) (h3 : o.map k = some d) : o.map (fun s => (f s, g s, k s)) = some (b, c, d) := by
  cases o with
  | none => cases h1
  | some s => cases h1; cases h2; cases h3; rfl
theorem tab_of {K : Params → Frag} {P : Addr} {as : List Addr} {e : ∀ P', as = (kT K [P] P').map (·.1)} {w : World} {h : Heap} (Y : (kHook (kT K [P]) as e).says w h) (n : (K w.params).lookup P = none) : h.get? P = some { cls := .none, data := .fields #[] } := Y P _ (by
  show List.lookup P (K w.params ++ _) = some _
  rw [List.lookup_append, n]
  show List.lookup P [(P, tabObj #[])] = some _
  rw [List.lookup_cons, beq_self_eq_true])
end HX
namespace HD
open PySem PySem.W PySem.Calls PyProof.Rows
set_option maxHeartbeats 0
abbrev prog : Program := PySem.Challenge.rw_wishwords_k09_whole_bounds_of_tables.row.prog
noncomputable def view : Program := { prog with main := { prog.main with body := HX.pick prog.main.body [31] } }
def loose : List PySem.Str := [PySem.Str.ofString "WordError", PySem.Str.ofString "NoTable", PySem.Str.ofString "NoName", PySem.Str.ofString "LETTERS", PySem.Str.ofString "are_letters", PySem.Str.ofString "Kind", PySem.Str.ofString "AnyWord", PySem.Str.ofString "Begins", PySem.Str.ofString "OFTENS", PySem.Str.ofString "MOST_WISHES", PySem.Str.ofString "MOST_OTHERS", PySem.Str.ofString "told_kind", PySem.Str.ofString "Wish", PySem.Str.ofString "Place", PySem.Str.ofString "is_named", PySem.Str.ofString "is_wish", PySem.Str.ofString "is_place", PySem.Str.ofString "is_pair", PySem.Str.ofString "need_part", PySem.Str.ofString "Table", PySem.Str.ofString "_law_mixed", PySem.Str.ofString "_law_draw", PySem.Str.ofString "_law_next", PySem.Str.ofString "_law_pick", PySem.Str.ofString "_law_at", PySem.Str.ofString "_law_pairs_of"]
def asL : List Addr := [2, 3, 15, 22, 23, 24, 25, 28, 35, 37, 38, 40, 41, 42, 43, 44, 47, 54, 55, 56, 59, 61, 62, 64, 65, 73, 75, 76, 78, 79, 80, 82, 83, 85, 86, 87, 88, 89, 90, 91, 94, 101, 103, 104, 106, 107, 108, 110, 111, 113, 114, 115, 116, 117, 120, 127, 129, 130, 132, 133, 134, 136, 137, 139, 140, 141, 143, 144, 146, 147, 148, 149, 150, 153, 154, 156, 157, 159, 160, 168, 169, 171, 172, 174, 175, 176, 178, 179, 181, 182, 183, 184, 185, 186, 187, 197, 199, 200, 202, 203, 204, 206, 207, 209, 210, 211, 212, 213, 214, 215, 218, 220, 221, 223, 224, 225, 228, 229, 230, 232, 233, 235, 236, 237, 239, 240, 242, 243, 244, 246, 247, 249, 250, 258, 261, 262, 263, 265, 266, 268, 269, 270, 272, 273, 275, 276, 277, 280, 281, 282, 283, 284, 285, 286, 289, 291, 292, 294, 295, 296, 298, 299, 301, 302, 303, 305, 306, 308, 309, 310, 312, 313, 315, 316, 317, 319, 320, 322, 323, 324, 327, 328, 329, 332, 333, 259]
section
local macro_rules | `(tactic| o_head ($f $k $a $e $t)) => `(tactic| exact (‹∀ p : Prop, p› _))
local macro_rules | `(tactic| o_head ($f $k $a $e)) => `(tactic| exact (‹∀ p : Prop, p› _))
theorem h0 (h : ∀ p : Prop, p) : PySem.Challenge.rw_wishwords_k09_whole_bounds_of_tables.Holds := by
  w_on
  refine holds_law (h _) fun said => ?_
  k_head
end
noncomputable def run (w : World) (os : OsState) : Option SharedT := HeadRun.endF (HeadRun.stepQ (HeadRun.denQ HeadRun.tabQ) prog w) 5768 prog w os
theorem look1 (w : World) (os : OsState) : (run w os).map (fun s => HeadRun.looksF prog (boot_heap w.params) s.abs) = some true := by kernel_rfl
noncomputable def seen (w : World) (s : SharedT) := HeadRun.seenQ view loose (importedModules prog.main.body) (fun s => xlAt view [] s && recOk PySem.Challenge.rw_wishwords_k09_whole_bounds_of_tables.row.records s) s.abs
theorem look2 (w : World) (os : OsState) : (run w os).map (fun s => seen w s) = some (openGood view loose) := by kernel_rfl
theorem look3 (w : World) (os : OsState) : (run w os).map (fun s => asL.map (HeadRun.getT s)) = some ((HX.kT h0.heap_1 [259] w.params).map fun x => some x.2) := by kernel_rfl
theorem asE : ∀ P, asL = (HX.kT h0.heap_1 [259] P).map (·.1) := fun _ => by kernel_rfl
theorem left : LeftO prog view loose (fun s => xlAt view [] s && recOk PySem.Challenge.rw_wishwords_k09_whole_bounds_of_tables.row.records s) (Hook.obs (kHook (HX.kT h0.heap_1 [259]) asL asE)) (Hook.val (kHook (HX.kT h0.heap_1 [259]) asL asE)) 6468 true :=
  HeadRun.left_oneK (M := 5768) (by kernel_rfl) (by rfl) (fun s => by kernel_rfl) (by rfl) fun w os => HX.cut3 (look1 w os) (look2 w os) (look3 w os)
end HD
namespace PL
open PySem L2
abbrev lamQ : Str := "Table.__init__.<locals>.<lambda>"
abbrev Sl := List (Option V)
def PlT (K : PySem.W.Frag) (C : Hp) (a : Addr) (xs : List V) : Prop := (∃ o, C a = some (.frz o (.tup xs)) ∧ o.dict = none) ∨
 ∃ (o : Obj) (its : Array Value) (n : Nat), K.lookup a = some o ∧ o.cls = .type "tuple" ∧ o.dict = none ∧ o.data = .seq its n ∧ its.size ≤ sizeLine ∧ Vals xs its.toList
theorem PlT.sq {K : PySem.W.Frag} {C : Hp} {a : Addr} {xs : List V} (h : PlT K C a xs) : SqT K C a xs := by
 rcases h with ⟨o, h, _⟩ | ⟨o, its, n, h1, h2, _, h3⟩
 ·exact .inl (.inr ⟨o, h⟩)
 ·exact .inr ⟨o, its, n, h1, h2, h3⟩
theorem PlT.of {K : PySem.W.Frag} {C : Hp} {a : Addr} {xs : List V} {o : Obj} (h : C a = some (.frz o (.tup xs))) (hd : o.dict = none) : PlT K C a xs := .inl ⟨o, h, hd⟩
inductive D where
 | s (x : V)
 | tup (ds : List D)
 | lst (ds : List D)
 | obj (c : Addr) (fs : List (Str × D))
 | ro (ds : List D)
 | lam (f : Addr) (φ : Heap → Prop) (zs : List V) (ks : List D)
 | dic (kvs : List (Key × D))
 | exc (c : Addr) (b : Bool) (fs : List (Str × D))
 | lab (a : Addr) (d : D)
def ExO (a c : Addr) (d : Option Addr) : Heap → Prop := fun h => ∃ o vs, h.get? a = some o ∧ Zc (.ref c) d o ∧ o.data = .fields vs
mutual
def Is (K : PySem.W.Frag) (C : Hp) : D → V → Prop
 | .s x, v => v = x
 | .tup ds, v => ∃ a xs, v = .ref a ∧ PlT K C a xs ∧ Iss K C ds xs
 | .lst ds, v => ∃ a xs, v = .ref a ∧ C a = some (.lst xs) ∧ Iss K C ds xs
 | .obj c fs, v => ∃ a dx gs, v = .ref a ∧ C a = some (.ins c dx gs) ∧ Isf K C fs gs
 | .ro ds, v => ∃ a xs, v = .ref a ∧ SqL K C a xs ∧ Iss K C ds xs
 | .lam f φ zs ks, v => v = .ref f ∧ C f = some (.ext φ) ∧ Iss K C ks zs
 | .dic kvs, v => ∃ a o xs, v = .ref a ∧ C a = some (.frz o (.dK xs)) ∧ Isk K C kvs xs
 | .exc c b fs, v => ExcC K c ∧ ∃ a d gs, v = .ref a ∧ C a = some (.ext (ExO a c d)) ∧ ((b = false ∧ d = none) ∨ ∃ p, b = true ∧ d = some p ∧ C p = some (.xd gs)) ∧ Isf K C fs gs
 | .lab a d, v => v = .ref a ∧ Is K C d v
def Iss (K : PySem.W.Frag) (C : Hp) : List D → List V → Prop
 | [], xs => xs = []
 | d :: ds, xs => ∃ x r, xs = x :: r ∧ Is K C d x ∧ Iss K C ds r
def Isf (K : PySem.W.Frag) (C : Hp) : List (Str × D) → List (Str × V) → Prop
 | [], xs => xs = []
 | (n, d) :: ds, xs => ∃ x r, xs = (n, x) :: r ∧ Is K C d x ∧ Isf K C ds r
def Isk (K : PySem.W.Frag) (C : Hp) : List (Key × D) → List (Key × V) → Prop
 | [], xs => xs = []
 | (n, d) :: ds, xs => ∃ x r, xs = (n, x) :: r ∧ Is K C d x ∧ Isk K C ds r
end
def NT (o : HO) : Prop := ∀ ps, o ≠ .tbl ps
theorem ko {xs : List V} : NT (.lst xs) := fun _ z => by cases z
theorem nt_tup {xs : List V} : NT (.tup xs) := fun _ z => by cases z
theorem nt_ins {c d : Addr} {fs : List (Str × V)} : NT (.ins c d fs) := fun _ z => by cases z
theorem nt_frz {o : Obj} {u : HO} : NT (.frz o u) := fun _ z => by cases z
theorem nt_xd {fs : List (Str × V)} : NT (.xd fs) := fun _ z => by cases z
theorem nt_dK {fs : List (Key × V)} : NT (.dK fs) := fun _ z => by cases z
def Ex (H H' : Hp) : Prop := (∀ a o, H a = some o → NT o → H' a = some o) ∧ ∀ a, H' a = none → H a = none
def TabP (K : PySem.W.Frag) (P : Addr) : Prop := ∃ (C f : Addr) (o : Obj) (fd : FuncData) (c : Addr), PySem.W.nsIn K mainGlobals "Table" = some (some (.ref C)) ∧ PySem.W.findIn K (.ref C) "__init__" = some (some (.ref f)) ∧ K.lookup f = some o ∧ o.data = .func fd ∧ fd.code = .ref c ∧ PySem.W.codeHdIn K c P = true
abbrev TS1 (H : Hp) (P : Addr) : Prop := LamX.TabS H P lamQ
def NotCode (φ : Heap → Prop) : Prop := ∀ c q, HO.ext φ ≠ LamX.CodeO c q
def NX (o : HO) : Prop := NT o ∧ ∀ φ, o = .ext φ → NotCode φ
theorem yak {H : Hp} {P a : Addr} {o : HO} (h : TS1 H P) (ha : ∀ u, H a = some u → NX u) : TS1 (upd H a o) P := by
 obtain ⟨ps, h1, h2, h3⟩ := h
 refine ⟨ps, ?_, h2, fun pos cv hc => ?_⟩
 ·rw [upd_ne (fun z => by rw [z] at h1; exact (ha _ h1).1 ps rfl)]; exact h1
 ·obtain ⟨c, e1, e2⟩ := h3 pos cv hc
  refine ⟨c, e1, ?_⟩
  rw [upd_ne (fun z => by rw [z] at e2; exact (ha _ e2).2 _ rfl a lamQ rfl)]; exact e2
theorem jw {H : Hp} {P a : Addr} {o : HO} (h : TS1 H P) (ha : H a = none) : TS1 (upd H a o) P := yak h fun u z => by rw [ha] at z; cases z
theorem Ex.refl (H : Hp) : Ex H H := ⟨fun _ _ h _ => h, fun _ h => h⟩
theorem Ex.trans {H H1 H2 : Hp} (a : Ex H H1) (b : Ex H1 H2) : Ex H H2 := ⟨fun x o h n => b.1 x o (a.1 x o h n) n, fun x h => a.2 x (b.2 x h)⟩
theorem Ex.new {H : Hp} {p : Addr} {o : HO} (h : H p = none) : Ex H (upd H p o) := ⟨fun a u e _ => by
 rw [upd_ne (ne_of_none e h)]
 exact e, fun a e => by
 by_cases q : a = p
 ·rw [q, upd_same] at e; cases e
 ·rw [upd_ne q] at e; exact e⟩
theorem Ex.none {H H' : Hp} {p : Addr} (e : Ex H H') (h : H' p = none) : H p = none := e.2 p h
theorem ex_rd {H H' : Hp} {a : Addr} {u : HO} (e : Ex H H') (n : NT u) (h : Rd H a u) : Rd H' a u := by
 rcases h with h | ⟨o, h⟩
 ·exact Or.inl (e.1 a _ h n)
 ·exact Or.inr ⟨o, e.1 a _ h nt_frz⟩
theorem ex_l {K : PySem.W.Frag} {H H' : Hp} {a : Addr} {xs : List V} (e : Ex H H') (h : SqL K H a xs) : SqL K H' a xs := by
 rcases h with h | h
 ·exact Or.inl (ex_rd e ko h)
 ·exact Or.inr h
theorem ex_t {K : PySem.W.Frag} {H H' : Hp} {a : Addr} {xs : List V} (e : Ex H H') (h : SqT K H a xs) : SqT K H' a xs := by
 rcases h with h | h
 ·exact Or.inl (ex_rd e nt_tup h)
 ·exact Or.inr h
theorem ex_p {K : PySem.W.Frag} {H H' : Hp} {a : Addr} {xs : List V} (e : Ex H H') (h : PlT K H a xs) : PlT K H' a xs := by
 rcases h with ⟨o, h, q⟩ | h
 ·exact .inl ⟨o, e.1 a _ h nt_frz, q⟩
 ·exact .inr h
mutual
theorem Is.mono {K : PySem.W.Frag} {C C' : Hp} (e : Ex C C') : ∀ (d : D) (v : V), Is K C d v → Is K C' d v
 | .s x, v, h => by unfold Is at h ⊢; exact h
 | .tup ds, v, h => by
  unfold Is at h ⊢
  obtain ⟨a, xs, h1, h2, h3⟩ := h
  exact ⟨a, xs, h1, ex_p e h2, Iss.mono e ds xs h3⟩
 | .lst ds, v, h => by
  unfold Is at h ⊢
  obtain ⟨a, xs, h1, h2, h3⟩ := h
  exact ⟨a, xs, h1, e.1 _ _ h2 ko, Iss.mono e ds xs h3⟩
 | .obj c fs, v, h => by
  unfold Is at h ⊢
  obtain ⟨a, dx, gs, h1, h2, h3⟩ := h
  exact ⟨a, dx, gs, h1, e.1 _ _ h2 nt_ins, Isf.mono e fs gs h3⟩
 | .ro ds, v, h => by
  unfold Is at h ⊢
  obtain ⟨a, xs, h1, h2, h3⟩ := h
  exact ⟨a, xs, h1, ex_l e h2, Iss.mono e ds xs h3⟩
 | .lam f c zs ks, v, h => by
  unfold Is at h ⊢
  exact ⟨h.1, e.1 _ _ h.2.1 (fun ps z => by cases z), Iss.mono e ks zs h.2.2⟩
 | .dic kvs, v, h => by
  unfold Is at h ⊢
  obtain ⟨a, o, xs, h1, h2, h3⟩ := h
  exact ⟨a, o, xs, h1, e.1 _ _ h2 (fun ps z => by cases z), Isk.mono e kvs xs h3⟩
 | .exc c b fs, v, h => by
  unfold Is at h ⊢
  obtain ⟨h0, a, d, gs, h1, h2, h3, h4⟩ := h
  refine ⟨h0, a, d, gs, h1, e.1 _ _ h2 (fun ps z => by cases z), ?_, Isf.mono e fs gs h4⟩
  rcases h3 with h3 | ⟨p, q1, q2, q3⟩
  ·exact .inl h3
  ·exact .inr ⟨p, q1, q2, e.1 _ _ q3 (fun ps z => by cases z)⟩
 | .lab a d, v, h => by
  unfold Is at h ⊢
  exact ⟨h.1, Is.mono e d v h.2⟩
theorem Iss.mono {K : PySem.W.Frag} {C C' : Hp} (e : Ex C C') : ∀ (ds : List D) (vs : List V), Iss K C ds vs → Iss K C' ds vs
 | [], vs, h => by unfold Iss at h ⊢; exact h
 | d :: ds, vs, h => by
  unfold Iss at h ⊢
  obtain ⟨x, r, h1, h2, h3⟩ := h
  exact ⟨x, r, h1, Is.mono e d x h2, Iss.mono e ds r h3⟩
theorem Isf.mono {K : PySem.W.Frag} {C C' : Hp} (e : Ex C C') : ∀ (ds : List (Str × D)) (vs : List (Str × V)), Isf K C ds vs → Isf K C' ds vs
 | [], vs, h => by unfold Isf at h ⊢; exact h
 | (n, d) :: ds, vs, h => by
  unfold Isf at h ⊢
  obtain ⟨x, r, h1, h2, h3⟩ := h
  exact ⟨x, r, h1, Is.mono e d x h2, Isf.mono e ds r h3⟩
theorem Isk.mono {K : PySem.W.Frag} {C C' : Hp} (e : Ex C C') : ∀ (ds : List (Key × D)) (vs : List (Key × V)), Isk K C ds vs → Isk K C' ds vs
 | [], vs, h => by unfold Isk at h ⊢; exact h
 | (n, d) :: ds, vs, h => by
  unfold Isk at h ⊢
  obtain ⟨x, r, h1, h2, h3⟩ := h
  exact ⟨x, r, h1, Is.mono e d x h2, Isk.mono e ds r h3⟩
end
section
variable {K : PySem.W.Frag} {C C' H H' : Hp}
theorem is_s {x : V} : Is K C (.s x) x := by unfold Is; rfl
theorem is_s_iff {x v : V} : Is K C (.s x) v ↔ v = x := by unfold Is; rfl
theorem qf : Iss K C [] [] := by unfold Iss; rfl
theorem kc {d : D} {ds : List D} {x : V} {xs : List V} (h : Is K C d x) (hs : Iss K C ds xs) : Iss K C (d :: ds) (x :: xs) := by unfold Iss; exact ⟨x, xs, rfl, h, hs⟩
theorem iss_nil_iff {xs : List V} : Iss K C [] xs ↔ xs = [] := by unfold Iss; rfl
theorem iss_cons_iff {d : D} {ds : List D} {xs : List V} : Iss K C (d :: ds) xs ↔ ∃ x r, xs = x :: r ∧ Is K C d x ∧ Iss K C ds r := by
 constructor
 ·intro h; unfold Iss at h; exact h
 ·intro h; unfold Iss; exact h
theorem is_tup {ds : List D} {xs : List V} {a : Addr} (h : PlT K C a xs) (hs : Iss K C ds xs) : Is K C (.tup ds) (.ref a) := by unfold Is; exact ⟨a, xs, rfl, h, hs⟩
theorem is_lst {ds : List D} {xs : List V} {a : Addr} (h : C a = some (.lst xs)) (hs : Iss K C ds xs) : Is K C (.lst ds) (.ref a) := by unfold Is; exact ⟨a, xs, rfl, h, hs⟩
theorem is_tup_p {ds : List D} {v : V} (h : Is K C (.tup ds) v) : ∃ a xs, v = .ref a ∧ PlT K C a xs ∧ Iss K C ds xs := by
 unfold Is at h; exact h
theorem yr {ds : List D} {v : V} (h : Is K C (.tup ds) v) : ∃ a xs, v = .ref a ∧ SqT K C a xs ∧ Iss K C ds xs := by
 obtain ⟨a, xs, h1, h2, h3⟩ := is_tup_p h
 exact ⟨a, xs, h1, h2.sq, h3⟩
theorem is_lst_iff {ds : List D} {v : V} : Is K C (.lst ds) v ↔ ∃ a xs, v = .ref a ∧ C a = some (.lst xs) ∧ Iss K C ds xs := by
 constructor
 ·intro h; unfold Is at h; exact h
 ·intro h; unfold Is; exact h
theorem is_obj_iff {c : Addr} {fs : List (Str × D)} {v : V} : Is K C (.obj c fs) v ↔ ∃ a dx gs, v = .ref a ∧ C a = some (.ins c dx gs) ∧ Isf K C fs gs := by
 constructor
 ·intro h; unfold Is at h; exact h
 ·intro h; unfold Is; exact h
theorem is_ro_iff {ds : List D} {v : V} : Is K C (.ro ds) v ↔ ∃ a xs, v = .ref a ∧ SqL K C a xs ∧ Iss K C ds xs := by
 constructor
 ·intro h; unfold Is at h; exact h
 ·intro h; unfold Is; exact h
theorem is_lam_iff {f : Addr} {c : Heap → Prop} {zs : List V} {ks : List D} {v : V} : Is K C (.lam f c zs ks) v ↔ v = .ref f ∧ C f = some (.ext c) ∧ Iss K C ks zs := by
 constructor
 ·intro h; unfold Is at h; exact h
 ·intro h; unfold Is; exact h
theorem is_dic_iff {kvs : List (Key × D)} {v : V} : Is K C (.dic kvs) v ↔ ∃ a o xs, v = .ref a ∧ C a = some (.frz o (.dK xs)) ∧ Isk K C kvs xs := by
 constructor
 ·intro h; unfold Is at h; exact h
 ·intro h; unfold Is; exact h
theorem is_exc_iff {c : Addr} {b : Bool} {fs : List (Str × D)} {v : V} : Is K C (.exc c b fs) v ↔ ExcC K c ∧ ∃ a d gs, v = .ref a ∧ C a = some (.ext (ExO a c d)) ∧ ((b = false ∧ d = none) ∨ ∃ p, b = true ∧ d = some p ∧ C p = some (.xd gs)) ∧ Isf K C fs gs := by
 constructor
 ·intro h; unfold Is at h; exact h
 ·intro h; unfold Is; exact h
theorem is_lab_iff {a : Addr} {d : D} {v : V} : Is K C (.lab a d) v ↔ v = .ref a ∧ Is K C d v := by
 constructor
 ·intro h; unfold Is at h; exact h
 ·intro h; unfold Is; exact h
theorem jaz : Isf K C [] [] := by unfold Isf; rfl
theorem z6 {n : Str} {d : D} {ds : List (Str × D)} {x : V} {xs : List (Str × V)} (h : Is K C d x) (hs : Isf K C ds xs) : Isf K C ((n, d) :: ds) ((n, x) :: xs) := by unfold Isf; exact ⟨x, xs, rfl, h, hs⟩
theorem isf_nil_iff {xs : List (Str × V)} : Isf K C [] xs ↔ xs = [] := by unfold Isf; rfl
theorem isf_cons_iff {n : Str} {d : D} {ds : List (Str × D)} {xs : List (Str × V)} : Isf K C ((n, d) :: ds) xs ↔ ∃ x r, xs = (n, x) :: r ∧ Is K C d x ∧ Isf K C ds r := by
 constructor
 ·intro h; unfold Isf at h; exact h
 ·intro h; unfold Isf; exact h
theorem Iss.length : ∀ {ds : List D} {xs : List V}, Iss K C ds xs → xs.length = ds.length
 | [], xs, h => by rw [iss_nil_iff.mp h]; rfl
 | d :: ds, xs, h => by
  obtain ⟨x, r, rfl, _, h3⟩ := iss_cons_iff.mp h
  rw [List.length_cons, List.length_cons, Iss.length h3]
theorem Iss.get : ∀ {ds : List D} {xs : List V} {i : Nat} {d : D}, Iss K C ds xs → ds[i]? = some d → ∃ x, xs[i]? = some x ∧ Is K C d x
 | [], xs, i, d, h, e => by simp at e
 | d0 :: ds, xs, 0, d, h, e => by
  obtain ⟨x, r, rfl, h2, _⟩ := iss_cons_iff.mp h
  simp at e; subst e
  exact ⟨x, rfl, h2⟩
 | d0 :: ds, xs, i + 1, d, h, e => by
  obtain ⟨x, r, rfl, _, h3⟩ := iss_cons_iff.mp h
  obtain ⟨y, h4, h5⟩ := Iss.get (i := i) (d := d) h3 (by simpa using e)
  exact ⟨y, by simpa using h4, h5⟩
theorem Iss.app : ∀ {ds es : List D} {xs ys : List V}, Iss K C ds xs → Iss K C es ys → Iss K C (ds ++ es) (xs ++ ys)
 | [], es, xs, ys, h, k => by rw [iss_nil_iff.mp h]; exact k
 | d :: ds, es, xs, ys, h, k => by
  obtain ⟨x, r, rfl, h2, h3⟩ := iss_cons_iff.mp h
  exact kc h2 (Iss.app h3 k)
theorem Iss.take : ∀ {ds : List D} {xs : List V} (n : Nat), Iss K C ds xs → Iss K C (ds.take n) (xs.take n)
 | ds, xs, 0, h => by simpa using qf
 | [], xs, n + 1, h => by rw [iss_nil_iff.mp h]; exact qf
 | d :: ds, xs, n + 1, h => by
  obtain ⟨x, r, rfl, h2, h3⟩ := iss_cons_iff.mp h
  exact kc h2 (Iss.take n h3)
theorem Iss.drop : ∀ {ds : List D} {xs : List V} (n : Nat), Iss K C ds xs → Iss K C (ds.drop n) (xs.drop n)
 | ds, xs, 0, h => h
 | [], xs, n + 1, h => by rw [iss_nil_iff.mp h]; exact qf
 | d :: ds, xs, n + 1, h => by
  obtain ⟨x, r, rfl, _, h3⟩ := iss_cons_iff.mp h
  exact Iss.drop n h3
theorem Iss.set : ∀ {ds : List D} {xs : List V} {d : D} {x : V} (n : Nat), Iss K C ds xs → Is K C d x → Iss K C (ds.set n d) (xs.set n x)
 | [], xs, d, x, n, h, k => by rw [iss_nil_iff.mp h]; exact qf
 | d0 :: ds, xs, d, x, 0, h, k => by
  obtain ⟨y, r, rfl, _, h3⟩ := iss_cons_iff.mp h
  exact kc k h3
 | d0 :: ds, xs, d, x, n + 1, h, k => by
  obtain ⟨y, r, rfl, h2, h3⟩ := iss_cons_iff.mp h
  exact kc h2 (Iss.set n h3 k)
theorem Isf.lookup : ∀ {fs : List (Str × D)} {gs : List (Str × V)} {n : Str} {d : D}, Isf K C fs gs → fs.lookup n = some d → ∃ x, gs.lookup n = some x ∧ Is K C d x
 | [], gs, n, d, h, e => by simp at e
 | (m, d0) :: fs, gs, n, d, h, e => by
  obtain ⟨x, r, rfl, h2, h3⟩ := isf_cons_iff.mp h
  rw [List.lookup_cons] at e ⊢
  cases hb : n == m with
  | true => rw [hb] at e; simp at e; subst e; exact ⟨x, rfl, h2⟩
  | false => rw [hb] at e; simp at e; exact Isf.lookup h3 e
end
mutual
def nkD : D → Option NestedKey
 | .s .non => some .none
 | .s (.bl b) => some (.num (if b = true then 1 else 0))
 | .s (.int i) => some (.num i)
 | .s (.str z) => some (.text z)
 | .tup ds => match nkDs ds with
  | some ks => some (.tup ks)
  | none => none
 | _ => none
def nkDs : List D → Option (List NestedKey)
 | [] => some []
 | d :: ds => match nkD d, nkDs ds with
  | some k, some ks => some (k :: ks)
  | _, _ => none
end
abbrev NEnt := List (NestedKey × Addr × Value)
def NDat (P : Program) (w : World) (a : Addr) (xs : NEnt) : Heap → Prop := fun h => ∃ o es ep, h.get? a = some o ∧ o.ExactDict ∧ o.data = .dict es ep ∧ es.toList = xs.map (entryOfKey (nestedKind P w))
theorem ndat_code (P : Program) (w : World) (a : Addr) (xs : NEnt) : NotCode (NDat P w a xs) := fun c q e => by
 have e2 : NDat P w a xs = fun h => ∃ (oc : Obj) (vs : Array Value) (t : Tok), h.get? c = some oc ∧ oc.data = .fields vs ∧ vs[1]? = some (.str q t) := by
  unfold LamX.CodeO at e
  injection e
 let ob : Obj := { cls := .type "dict", data := .dict (xs.map (entryOfKey (nestedKind P w))).toArray 0 }
 let fr : Obj := { cls := .none, data := .freed }
 let h : Heap := { objs := (List.replicate a fr ++ [ob]).toArray }
 have hg : h.get? a = some ob := by
  unfold Heap.get?
  have : h.objs[a]? = some ob := by
   show (List.replicate a fr ++ [ob]).toArray[a]? = some ob
   rw [List.getElem?_toArray, List.getElem?_append_right (by simp)]
   simp
  rw [this]
 have h1 : NDat P w a xs h := ⟨ob, _, _, hg, ⟨rfl, rfl, rfl⟩, rfl, by simp⟩
 rw [e2] at h1
 obtain ⟨oc, vs, t, g1, g2, _⟩ := h1
 have hne : ∀ b, b ≠ a → h.get? b = none := fun b hb => by
  unfold Heap.get?
  by_cases c1 : b < a
  ·have : h.objs[b]? = some fr := by
    show (List.replicate a fr ++ [ob]).toArray[b]? = some fr
    rw [List.getElem?_toArray, List.getElem?_append_left (by simpa using c1)]
    simp [c1]
   rw [this]
  ·have : h.objs[b]? = none := by
    show (List.replicate a fr ++ [ob]).toArray[b]? = none
    rw [List.getElem?_toArray, List.getElem?_eq_none_iff, List.length_append, List.length_replicate, List.length_singleton]
    have h3 : a ≤ b := Nat.le_of_not_lt c1
    exact Nat.succ_le_of_lt (Nat.lt_of_le_of_ne h3 fun z => hb z.symm)
   rw [this]
 by_cases hc : c = a
 ·rw [hc, hg] at g1
  cases g1
  cases g2
 ·rw [hne c hc] at g1
  cases g1
def NKs (K : PySem.W.Frag) (C : Hp) : List (D × D) → NEnt → Prop
 | [], xs => xs = []
 | (kd, vd) :: r, xs => ∃ k ka u v t, xs = (k, ka, u) :: t ∧ nkD kd = some k ∧ k.depth ≤ 8 ∧ Is K C kd (.ref ka) ∧ RelV v u ∧ Is K C vd v ∧ NKs K C r t
theorem NKs.mono {K : PySem.W.Frag} {C C' : Hp} (e : Ex C C') : ∀ (ds : List (D × D)) (xs : NEnt), NKs K C ds xs → NKs K C' ds xs
 | [], xs, h => h
 | (kd, vd) :: ds, xs, h => by
  obtain ⟨k, ka, u, v, t, h1, h2, h3, h4, h5, h6, h7⟩ := h
  exact ⟨k, ka, u, v, t, h1, h2, h3, Is.mono e kd _ h4, h5, Is.mono e vd v h6, NKs.mono e ds t h7⟩
inductive M where
 | lst (ds : List D)
 | dk (kvs : List (Key × D))
 | dt (kvs : List (List Key × D))
 | ob (c : Addr) (fs : List (Str × D))
 | dn (P : Program) (w : World) (kvs : List (D × D))
def Iskv {κ : Type} (K : PySem.W.Frag) (C : Hp) : List (κ × D) → List (κ × V) → Prop
 | [], xs => xs = []
 | (n, d) :: ds, xs => ∃ x r, xs = (n, x) :: r ∧ Is K C d x ∧ Iskv K C ds r
theorem Iskv.mono {κ : Type} {K : PySem.W.Frag} {C C' : Hp} (e : Ex C C') : ∀ (ds : List (κ × D)) (vs : List (κ × V)), Iskv K C ds vs → Iskv K C' ds vs
 | [], vs, h => h
 | (n, d) :: ds, vs, h => by
  obtain ⟨x, r, h1, h2, h3⟩ := h
  exact ⟨x, r, h1, Is.mono e d x h2, Iskv.mono e ds r h3⟩
def MIs (K : PySem.W.Frag) (C : Hp) : M → HO → Prop
 | .lst ds, o => ∃ xs, o = .lst xs ∧ Iss K C ds xs
 | .dk kvs, o => ∃ xs, o = .dK xs ∧ Iskv K C kvs xs
 | .dt kvs, o => ∃ xs, o = .dT xs ∧ Iskv K C kvs xs
 | .ob c fs, o => ∃ dx gs, o = .ins c dx gs ∧ Isf K C fs gs
 | .dn P w kvs, o => ∃ a xs, o = .ext (NDat P w a xs) ∧ (a == sysModules) = false ∧ (xs.map (·.1)).Nodup ∧ NKs K C kvs xs
theorem MIs.nx {K : PySem.W.Frag} {C : Hp} {m : M} {o : HO} (h : MIs K C m o) : NX o := by
 cases m with
 | lst ds => obtain ⟨xs, rfl, _⟩ := h; exact ⟨ko, fun _ z => by cases z⟩
 | dk ds => obtain ⟨xs, rfl, _⟩ := h; exact ⟨nt_dK, fun _ z => by cases z⟩
 | dt ds => obtain ⟨xs, rfl, _⟩ := h; exact ⟨(fun _ z => nomatch z), (fun _ z => nomatch z)⟩
 | ob c fs => obtain ⟨dx, gs, rfl, _⟩ := h; exact ⟨nt_ins, fun _ z => by cases z⟩
 | dn P w kvs => obtain ⟨a, xs, rfl, _⟩ := h; exact ⟨(fun _ z => nomatch z), fun φ z => by cases z; exact ndat_code P w a xs⟩
theorem MIs.mono {K : PySem.W.Frag} {C C' : Hp} {m : M} {o : HO} (e : Ex C C') (h : MIs K C m o) : MIs K C' m o := by
 cases m with
 | lst ds => obtain ⟨xs, h1, h2⟩ := h; exact ⟨xs, h1, Iss.mono e ds xs h2⟩
 | dk ds => obtain ⟨xs, h1, h2⟩ := h; exact ⟨xs, h1, Iskv.mono e ds xs h2⟩
 | dt ds => obtain ⟨xs, h1, h2⟩ := h; exact ⟨xs, h1, Iskv.mono e ds xs h2⟩
 | ob c fs => obtain ⟨dx, gs, h1, h2⟩ := h; exact ⟨dx, gs, h1, Isf.mono e fs gs h2⟩
 | dn P w kvs => obtain ⟨a, xs, h1, h2, h3, h4⟩ := h; exact ⟨a, xs, h1, h2, h3, NKs.mono e kvs xs h4⟩
inductive Cell where
 | no
 | dat (d : D)
 | own (m : M)
abbrev En := List Cell
inductive Rv where
 | dat (d : D)
 | new (m : M)
 | bor (i : Nat)
structure Exn where
 c : Addr
 fs : Option (List (Str × D))
inductive Out (α : Type) where
 | ok (a : α) (r : En)
 | ex (e : Exn) (r : En)
def qc (σ : Sl) (ρ : En) (a : Addr) : Prop := ∃ (i : Nat) (m : M), ρ[i]? = some (.own m) ∧ σ[i]? = some (some (.ref a))
def CellOk (K : PySem.W.Frag) (C H : Hp) (v : Option V) : Cell → Prop
 | .no => True
 | .dat d => ∃ x, v = some x ∧ Is K C d x
 | .own m => ∃ p o, v = some (.ref p) ∧ C p = none ∧ H p = some o ∧ MIs K C m o
structure EnvOk (K : PySem.W.Frag) (C H : Hp) (σ : Sl) (ρ : En) : Prop where
 len : σ.length = ρ.length
 ext : Ex C H
 cell : ∀ (i : Nat) (c : Cell), ρ[i]? = some c → ∃ v, σ[i]? = some v ∧ CellOk K C H v c
 inj : ∀ (i j : Nat) (m n : M) (a : Addr), ρ[i]? = some (.own m) → ρ[j]? = some (.own n) → σ[i]? = some (some (.ref a)) → σ[j]? = some (some (.ref a)) → i = j
 tab : ∀ P, TabP K P → TS1 H P
structure Step (C H C' H' : Hp) (A : Addr → Prop) : Prop where
 core : Ex C C'
 ext : Ex C' H'
 keep : ∀ b o, H b = some o → NT o → ¬ A b → H' b = some o
 new : ∀ b, C b = none → C' b ≠ none → H b = none ∨ A b
 dom : ∀ b, H' b = none → H b = none
 tabs : ∀ P, TS1 H P → TS1 H' P
theorem Step.refl {C H : Hp} {A : Addr → Prop} (e : Ex C H) : Step C H C H A := ⟨Ex.refl C, e, fun _ _ h _ _ => h, fun b h k => absurd h k, fun _ h => h, fun _ h => h⟩
theorem Step.trans {C H C1 H1 C2 H2 : Hp} {A B : Addr → Prop} (s : Step C H C1 H1 A) (t : Step C1 H1 C2 H2 B) (hB : ∀ a, B a → A a ∨ H a = none) : Step C H C2 H2 A := by
 refine ⟨s.core.trans t.core, t.ext, fun b o h nt na => ?_, fun b h k => ?_, fun b h => s.dom b (t.dom b h), fun P h => t.tabs P (s.tabs P h)⟩
 ·refine t.keep b o (s.keep b o h nt na) nt fun hb => ?_
  rcases hB b hb with z | z
  ·exact na z
  ·rw [z] at h; cases h
 ·cases e : C1 b with
  | none =>
   rcases t.new b e k with z | z
   ·exact .inl (s.dom b z)
   ·rcases hB b z with y | y
    ·exact .inr y
    ·exact .inl y
  | some o => exact s.new b h (by rw [e]; exact fun z => by cases z)
theorem Step.weak {C H C' H' : Hp} {A B : Addr → Prop} (s : Step C H C' H' A) (h : ∀ a, A a → B a ∨ H a = none) : Step C H C' H' B := by
 refine ⟨s.core, s.ext, fun b o e nt nb => s.keep b o e nt fun a => ?_, fun b e k => ?_, s.dom, s.tabs⟩
 ·rcases h b a with z | z
  ·exact nb z
  ·rw [z] at e; cases e
 ·rcases s.new b e k with z | z
  ·exact .inl z
  ·rcases h b z with y | y
   ·exact .inr y
   ·exact .inl y
structure Post (K : PySem.W.Frag) (σ : Sl) (C H : Hp) (ρ : En) (C' H' : Hp) (ρ' : En) : Prop where
 step : Step C H C' H' (qc σ ρ)
 own : ∀ a, qc σ ρ' a → qc σ ρ a
 env : EnvOk K C' H' σ ρ'
theorem Post.refl {K : PySem.W.Frag} {σ : Sl} {C H : Hp} {ρ : En} (e : EnvOk K C H σ ρ) : Post K σ C H ρ C H ρ := ⟨Step.refl e.ext, fun _ h => h, e⟩
theorem Post.trans {K : PySem.W.Frag} {σ : Sl} {C H C1 H1 C2 H2 : Hp} {ρ ρ1 ρ2 : En} (a : Post K σ C H ρ C1 H1 ρ1) (b : Post K σ C1 H1 ρ1 C2 H2 ρ2) : Post K σ C H ρ C2 H2 ρ2 :=
 ⟨a.step.trans b.step fun x h => .inl (a.own x h), fun x h => a.own x (b.own x h), b.env⟩
def VOk (K : PySem.W.Frag) (H0 C H : Hp) (σ : Sl) (ρ : En) (v : V) : Rv → Prop
 | .dat d => Is K C d v
 | .new m => ∃ p o, v = .ref p ∧ C p = none ∧ H p = some o ∧ MIs K C m o ∧ ¬ qc σ ρ p ∧ H0 p = none
 | .bor i => σ[i]? = some (some v) ∧ ∃ c, ρ[i]? = some c
theorem VOk.mono {K : PySem.W.Frag} {σ : Sl} {H0 C H C' H' : Hp} {ρ ρ' : En} {v : V} {r : Rv} (h : VOk K H0 C H σ ρ v r) (e : EnvOk K C H σ ρ) (p : Post K σ C H ρ C' H' ρ') : VOk K H0 C' H' σ ρ' v r := by
 cases r with
 | dat d => exact Is.mono p.step.core d v h
 | new m =>
  obtain ⟨a, o, h1, h2, h3, h4, h5, h6⟩ := h
  refine ⟨a, o, h1, ?_, p.step.keep a o h3 h4.nx.1 h5, h4.mono p.step.core, fun z => h5 (p.own a z), h6⟩
  cases q : C' a with
  | none => rfl
  | some u =>
   rcases p.step.new a h2 (by rw [q]; exact fun z => by cases z) with z | z
   ·rw [z] at h3; cases h3
   ·exact absurd z h5
 | bor i =>
  obtain ⟨h1, c, h2⟩ := h
  refine ⟨h1, ?_⟩
  have l1 : i < ρ.length := (List.getElem?_eq_some_iff.mp h2).1
  have l2 : i < ρ'.length := by rw [← p.env.len, e.len]; exact l1
  exact ⟨ρ'[i], List.getElem?_eq_getElem l2⟩
theorem VOk.back {K : PySem.W.Frag} {σ : Sl} {H0 H1 C H : Hp} {ρ : En} {v : V} {r : Rv} (h : VOk K H1 C H σ ρ v r) (d : ∀ b, H1 b = none → H0 b = none) : VOk K H0 C H σ ρ v r := by
 cases r with
 | dat d' => exact h
 | new m => obtain ⟨a, o, h1, h2, h3, h4, h5, h6⟩ := h; exact ⟨a, o, h1, h2, h3, h4, h5, d a h6⟩
 | bor i => exact h
def mdat : M → Option D
 | .lst ds => some (.lst ds)
 | .dk _ => none
 | .dt _ => none
 | .ob c fs => some (.obj c fs)
 | .dn _ _ _ => none
def cdat : Cell → Option D
 | .no => none
 | .dat d => some d
 | .own m => mdat m
def peek (ρ : En) : Rv → Option D
 | .dat d => some d
 | .new m => mdat m
 | .bor i => match ρ[i]? with
  | some c => cdat c
  | none => none
def grab (ρ : En) : Rv → Option (D × En)
 | .dat d => some (d, ρ)
 | .new m => match mdat m with
  | some d => some (d, ρ)
  | none => none
 | .bor i => match ρ[i]? with
  | some (.dat d) => some (d, ρ)
  | some (.own m) => match mdat m with
   | some d => some (d, ρ.set i (.dat d))
   | none => none
  | _ => none
theorem upd_core {C H : Hp} {a : Addr} {o : HO} (e : Ex C H) (ha : H a = some o) : Ex (upd C a o) H := ⟨fun b u h n => by
 by_cases hb : b = a
 ·subst hb; rw [upd_same] at h; cases h; exact ha
 ·rw [upd_ne hb] at h; exact e.1 b u h n, fun b h => by
 by_cases hb : b = a
 ·subst hb; rw [ha] at h; cases h
 ·rw [upd_ne hb]; exact e.2 b h⟩
theorem Post.froze {K : PySem.W.Frag} {C H : Hp} {σ : Sl} {ρ ρ' : En} {a : Addr} {o : HO} (e : EnvOk K C H σ ρ) (hc : C a = none) (ha : H a = some o) (hl : ρ'.length = ρ.length)
  (hr : ∀ (i : Nat) (c : Cell), ρ'[i]? = some c → (ρ[i]? = some c ∧ ∀ m, c = .own m → σ[i]? ≠ some (some (.ref a))) ∨ (∃ d, c = .dat d ∧ σ[i]? = some (some (.ref a)) ∧ Is K (upd C a o) d (.ref a))) (hA : qc σ ρ a ∨ True) :
  EnvOk K (upd C a o) H σ ρ' := by
 have x : Ex C (upd C a o) := Ex.new hc
 refine ⟨by rw [hl]; exact e.len, upd_core e.ext ha, fun i c h => ?_, fun i j m n b h1 h2 h3 h4 => ?_, e.tab⟩
 ·rcases hr i c h with ⟨h1, h2⟩ | ⟨d, rfl, h1, h2⟩
  ·obtain ⟨v, hv, ok⟩ := e.cell i c h1
   refine ⟨v, hv, ?_⟩
   cases c with
   | no => trivial
   | dat d => obtain ⟨y, hy, z⟩ := ok; exact ⟨y, hy, Is.mono x d y z⟩
   | own m =>
    obtain ⟨p, u, q1, q2, q3, q4⟩ := ok
    refine ⟨p, u, q1, ?_, q3, q4.mono x⟩
    have np : p ≠ a := fun z => h2 m rfl (by rw [hv, q1, z])
    rw [upd_ne np]; exact q2
  ·exact ⟨_, h1, _, rfl, h2⟩
 ·rcases hr i _ h1 with ⟨k1, _⟩ | ⟨d, z, _⟩
  ·rcases hr j _ h2 with ⟨k2, _⟩ | ⟨d, z, _⟩
   ·exact e.inj i j m n b k1 k2 h3 h4
   ·cases z
  ·cases z
theorem grab_ok {K : PySem.W.Frag} {H0 C H : Hp} {σ : Sl} {ρ ρ' : En} {v : V} {r : Rv} {d : D} (e : EnvOk K C H σ ρ) (h : VOk K H0 C H σ ρ v r) (g : grab ρ r = some (d, ρ')) :
  ∃ C', Is K C' d v ∧ EnvOk K C' H σ ρ' ∧ Ex C C' ∧ (∀ a, qc σ ρ' a → qc σ ρ a) ∧ (∀ b, C b = none → C' b ≠ none → H b = none ∨ qc σ ρ b ∨ H0 b = none) := by
 cases r with
 | dat d' => cases g; exact ⟨C, h, e, Ex.refl C, fun _ z => z, fun b h1 h2 => absurd h1 h2⟩
 | new m =>
  obtain ⟨a, o, rfl, h2, h3, h4, h5, h6⟩ := h
  have g' : mdat m = some d ∧ ρ = ρ' := by
   cases q : mdat m with
   | none => simp only [grab, q] at g; cases g
   | some d' => simp only [grab, q] at g; cases g; exact ⟨rfl, rfl⟩
  obtain ⟨g1, rfl⟩ := g'
  refine ⟨upd C a o, ?_, ?_, Ex.new h2, fun _ z => z, fun b k1 k2 => ?_⟩
  ·cases m with
   | lst ds =>
    obtain ⟨xs, rfl, q2⟩ := h4
    cases g1
    exact is_lst upd_same (Iss.mono (Ex.new h2) ds xs q2)
   | dk ds => cases g1
   | dt ds => cases g1
   | dn _ _ _ => cases g1
   | ob c fs =>
    obtain ⟨dx, gs, rfl, q2⟩ := h4
    cases g1
    exact is_obj_iff.mpr ⟨_, dx, gs, rfl, upd_same, Isf.mono (Ex.new h2) fs gs q2⟩
  ·exact Post.froze e h2 h3 rfl (fun i c q => .inl ⟨q, fun m' z s => h5 ⟨i, m', by rw [q, z], s⟩⟩) (.inr trivial)
  ·by_cases hb : b = a
   ·exact .inr (.inr (by rw [hb]; exact h6))
   ·rw [upd_ne hb] at k2; exact absurd k1 k2
 | bor i =>
  obtain ⟨h1, c, h2⟩ := h
  simp only [grab, h2] at g
  obtain ⟨x, hx, ok⟩ := e.cell i c h2
  rw [h1] at hx; cases hx
  cases c with
  | no => cases g
  | dat d' =>
   cases g
   obtain ⟨y, hy, z⟩ := ok
   cases hy
   exact ⟨C, z, e, Ex.refl C, fun _ z => z, fun b h1 h2 => absurd h1 h2⟩
  | own m =>
   obtain ⟨a, o, q1, q2, q3, q4⟩ := ok
   cases q1
   have g' : mdat m = some d ∧ ρ.set i (.dat d) = ρ' := by
    cases q : mdat m with
    | none => simp only [q] at g; cases g
    | some d' => simp only [q] at g; cases g; exact ⟨rfl, rfl⟩
   obtain ⟨g1, rfl⟩ := g'
   have isd : Is K (upd C a o) d (.ref a) := by
    cases m with
    | lst ds =>
     obtain ⟨xs, rfl, q5⟩ := q4
     cases g1
     exact is_lst upd_same (Iss.mono (Ex.new q2) ds xs q5)
    | dk ds => cases g1
    | dt ds => cases g1
    | dn _ _ _ => cases g1
    | ob c fs =>
     obtain ⟨dx, gs, rfl, q5⟩ := q4
     cases g1
     exact is_obj_iff.mpr ⟨_, dx, gs, rfl, upd_same, Isf.mono (Ex.new q2) fs gs q5⟩
   have il : i < ρ.length := (List.getElem?_eq_some_iff.mp h2).1
   refine ⟨upd C a o, isd, ?_, Ex.new q2, fun b ⟨j, m', z1, z2⟩ => ?_, fun b k1 k2 => ?_⟩
   ·refine Post.froze e q2 q3 (by rw [List.length_set]) (fun j c q => ?_) (.inr trivial)
    by_cases hj : i = j
    ·subst hj
     rw [List.getElem?_set_self il] at q; cases q
     exact .inr ⟨d, rfl, h1, isd⟩
    ·rw [List.getElem?_set_ne hj] at q
     exact .inl ⟨q, fun m' z s => hj (e.inj i j m m' a h2 (by rw [q, z]) h1 s)⟩
   ·by_cases hj : i = j
    ·subst hj
     rw [List.getElem?_set_self il] at z1; cases z1
    ·rw [List.getElem?_set_ne hj] at z1
     exact ⟨j, m', z1, z2⟩
   ·by_cases hb : b = a
    ·exact .inr (.inl ⟨i, m, h2, by rw [hb]; exact h1⟩)
    ·rw [upd_ne hb] at k2; exact absurd k1 k2
end PL
namespace PL
open PySem PySem.Spec PyProof.Rows L2
section
variable {X : Cx}
def tTupP (t : TA) : TE := fun σ H Q => t σ H fun xs H1 => xs.length ≤ sizeLine ∧ ∀ p o, H1 p = none → o.dict = none → Q (.ref p) (upd H1 p (.frz o (.tup xs)))
theorem pe_tupP {es : List Expr} {t : TA} {x1 : Nat} {pos : Pos} (h : PA X es t) : PE X (.Tuple es x1 pos) (tTupP t) :=
 ⟨fun pins s σ H Q I hq => wpAny_Tuple_spliced (thn (h.run pos pins s σ H _ I hq) fun us s1 ⟨xs, H1, I1, r, z, q⟩ => ⟨by rw [← r.length]; exact z,
  .ref s1.heap.objs.size, _, I1.laid (t' := s1.toks) (o := .frz { cls := .type "tuple", data := .seq us.toArray } (.tup xs)) (fun b u e => Heap.get?_push_of_some _ e) (Nat.le_refl _) ⟨Heap.get?_push_size _ rfl, z, us, r, IsTup.new _ _⟩, rfl, q _ _ (I1.hok.fresh (Nat.le_refl _)) rfl⟩)⟩
def rCatP (K : PySem.W.Frag) : R2 := fun x y H Q => ∃ a b xs ys, x = .ref a ∧ y = .ref b ∧ SqT K H a xs ∧ SqT K H b ys ∧ xs.length + ys.length ≤ sizeLine ∧
 (xs = [] → Q (.ref b) H) ∧ (xs ≠ [] → ys = [] → Q (.ref a) H) ∧ (xs ≠ [] → ys ≠ [] → ∀ p o, H p = none → o.dict = none → Q (.ref p) (upd H p (.frz o (.tup (xs ++ ys)))))
theorem op_catP : OpR X (binaryOp .Add) (rCatP X.K) := by
 intro pins s σ H x y v u Q I rx ry h
 obtain ⟨a, b, xs, ys, rfl, rfl, ha, hb, hz, q0, q1, q2⟩ := h
 cases rx
 cases ry
 obtain ⟨its, r1, p1, _⟩ := I.tuple ha
 obtain ⟨its2, r2, p2, _⟩ := I.tuple hb
 by_cases hx : xs = []
 ·subst hx
  cases r1
  exact cat_tup0 p1 p2 ⟨.ref b, H, I, rfl, q0 rfl⟩
 ·refine HT.cat_tup p1 p2 (fun z => hx (r1.nil_iff.mp z)) (fun z => ⟨.ref a, H, I, rfl, q1 hx (r2.nil_iff.mp z)⟩) (fun z => ?_) (by rw [← r1.length, ← r2.length]; exact hz)
  exact ⟨.ref s.heap.objs.size, _, I.laid (t' := s.toks) (o := .frz _ (.tup (xs ++ ys))) (fun b ob q => Heap.get?_push_of_some _ q) (Nat.le_refl _) ⟨Heap.get?_push_size _ rfl, by rw [List.length_append]; exact hz, _, r1.append r2, IsTup.new _ _⟩, rfl,
   q2 hx (fun w => z (r2.nil_iff.mpr w)) _ _ (I.hok.fresh (Nat.le_refl _)) rfl⟩
def rSlP (K : PySem.W.Frag) : V → Option Int → Option Int → Hp → VK → Prop := fun x lo hi H Q => ∃ a xs, x = .ref a ∧ SqT K H a xs ∧
 (HT.sIx xs.length 0 lo = 0 ∧ HT.sIx xs.length xs.length hi = xs.length → Q (.ref a) H) ∧ (¬ (HT.sIx xs.length 0 lo = 0 ∧ HT.sIx xs.length xs.length hi = xs.length) → ∀ p o, H p = none → o.dict = none → Q (.ref p) (upd H p (.frz o (.tup (cutV xs lo hi)))))
theorem sl_tupP : SlR X (rSlP X.K) := by
 intro pins s σ H x v vl vu lo hi sl Q I rx hs pl pu h
 obtain ⟨a, xs, rfl, hx, q1, q2⟩ := h
 cases rx
 obtain ⟨its, r, ht, hz⟩ := I.tuple hx
 have hlen : its.toArray.size = xs.length := by rw [List.size_toArray]; exact r.length.symm
 refine ⟨"tuple", _, PyProof.Rows.slot_tuple_getitem.lookup, ht.typeIs, ?_⟩
 by_cases hw : HT.sIx xs.length 0 lo = 0 ∧ HT.sIx xs.length xs.length hi = xs.length
 ·exact getItem_tuple_whole ht hs pl pu (by rw [hlen]; exact hw) ⟨.ref a, H, I, rfl, q1 hw⟩
 ·refine HT.getItem_tuple_cut ht hs pl pu (by rw [hlen]; exact hw) ?_ (by rw [hlen]; exact hz)
  rw [hlen]
  exact ⟨.ref s.heap.objs.size, _, I.laid (t' := s.toks) (o := .frz _ (.tup (cutV xs lo hi))) (fun b ob q => Heap.get?_push_of_some _ q) (Nat.le_refl _)
   ⟨Heap.get?_push_size _ rfl, Nat.le_trans (cutV_length xs lo hi) hz, _, (r.drop (HT.sIx xs.length 0 lo)).take (HT.sIx xs.length xs.length hi - HT.sIx xs.length 0 lo), IsTup.new _ _⟩, rfl, q2 hw _ _ (I.hok.fresh (Nat.le_refl _)) rfl⟩
def rTupP (K : PySem.W.Frag) : List V → Hp → VK → Prop := fun xs H Q => ∃ p ys, xs = [.ref p] ∧ ((SqL K H p ys ∧ ∀ l o, H l = none → o.dict = none → Q (.ref l) (upd H l (.frz o (.tup ys)))) ∨ (SqT K H p ys ∧ Q (.ref p) H))
theorem wbq : CallR X (.type "tuple") (rTupP X.K) := by
 intro pins s σ H xs us Q I r h
 obtain ⟨p, ys, rfl, h⟩ := h
 obtain ⟨u, rfl, rx⟩ := vals1 r
 cases rx
 rcases h with ⟨hq, q⟩ | ⟨hq, q⟩
 ·obtain ⟨its, r', pl, hz⟩ := I.list hq
  have hlen := r'.length
  refine call_tuple_list pl.isList (fun h' kp => ?_) (by simp only [List.size_toArray] <;> omega)
  have I1 : Inv X pins σ H { s with heap := h' } := I.kept (t' := s.toks) kp
  exact ⟨.ref h'.objs.size, _, I1.laid (t' := s.toks) (o := .frz { cls := .type "tuple", data := .seq its.toArray } (.tup ys)) (fun b o e => Heap.get?_push_of_some _ e) (Nat.le_refl _) ⟨Heap.get?_push_size _ rfl, hz, its, r', IsTup.new _ _⟩, rfl, q _ _ (I1.hok.fresh (Nat.le_refl _)) rfl⟩
 ·obtain ⟨its, r', pl, hz⟩ := I.tuple hq
  exact call_tuple_same pl ⟨.ref p, H, I, rfl, q⟩
end
end PL
namespace PL
open PySem L2
abbrev P (α : Type) := En → Option (Out α)
def jf {α β : Type} (o : Option (Out α)) (k : α → P β) : Option (Out β) := match o with
 | none => none
 | some (.ex e r) => some (.ex e r)
 | some (.ok a r) => k a r
def P.bind {α β : Type} (f : P α) (k : α → P β) : P β := fun ρ => jf (f ρ) k
def P.ret {α : Type} (a : α) : P α := fun ρ => some (.ok a ρ)
def P.fail {α : Type} : P α := fun _ => none
def P.of {α : Type} (o : Option α) : P α := fun ρ => match o with
 | some a => some (.ok a ρ)
 | none => none
def ExnOk (K : PySem.W.Frag) (C : Hp) (e : Exn) (d : Option Addr) : Prop := match e.fs with
 | none => d = none
 | some fs => ∃ a gs, d = some a ∧ C a = some (.xd gs) ∧ Isf K C fs gs
abbrev Rel (α' α : Type) := Hp → Hp → Sl → En → α' → α → Prop
abbrev Rd1 (α' : Type) := Hp → (α' → Hp → Prop) → Prop
def At {α' α : Type} (K : PySem.W.Frag) (W : WX) (R : Rel α' α) (σ : Sl) (C H : Hp) (ρ : En) (t : Rd1 α') (o : Option (Out α)) : Prop :=
 ∀ out Q, o = some out → (∀ a ρ', out = .ok a ρ' → ∀ v C' H', Post K σ C H ρ C' H' ρ' → R C' H' σ ρ' v a → Q v H') →
  (∀ e ρ', out = .ex e ρ' → ∀ d C' H', Post K σ C H ρ C' H' ρ' → ExnOk K C' e d → W (.ref e.c) d σ H') → t H Q
def Sd {α' α : Type} (K : PySem.W.Frag) (W : WX) (R : Hp → Rel α' α) (t : Sl → Rd1 α') (f : P α) : Prop :=
 ∀ σ C H ρ, EnvOk K C H σ ρ → At K W (R H) σ C H ρ (t σ) (f ρ)
section
variable {K : PySem.W.Frag} {W : WX} {σ : Sl} {C H : Hp} {ρ : En}
theorem At.bind {α' α β' β : Type} {Ra : Rel α' α} {Rb : Rel β' β} {ta : Rd1 α'} {tk : α' → Rd1 β'} {oa : Option (Out α)} {k : α → P β}
  (ha : At K W Ra σ C H ρ ta oa) (hk : ∀ a ρ1 v C1 H1, Post K σ C H ρ C1 H1 ρ1 → Ra C1 H1 σ ρ1 v a → At K W Rb σ C1 H1 ρ1 (tk v) (k a ρ1)) :
  At K W Rb σ C H ρ (fun H Q => ta H fun v H1 => tk v H1 Q) (jf oa k) := by
 intro out Q ho hok hex
 cases oa with
 | none => cases ho
 | some oa =>
  refine ha oa _ rfl (fun a ρ1 e v C1 H1 p r => ?_) (fun e ρ1 ee d C1 H1 p r => ?_)
  ·subst e
   refine hk a ρ1 v C1 H1 p r out Q ho (fun b ρ2 e2 w C2 H2 p2 r2 => hok b ρ2 e2 w C2 H2 (p.trans p2) r2) (fun e ρ2 e2 d C2 H2 p2 r2 => hex e ρ2 e2 d C2 H2 (p.trans p2) r2)
  ·subst ee
   have ho' : (Out.ex e ρ1 : Out β) = out := Option.some.inj ho
   exact hex e ρ1 ho'.symm d C1 H1 p r
theorem At.ret {α' α : Type} {R : Rel α' α} {v : α'} {a : α} (e : EnvOk K C H σ ρ) (r : R C H σ ρ v a) : At K W R σ C H ρ (fun H Q => Q v H) (some (.ok a ρ)) := by
 intro out Q ho hok hex
 cases ho
 exact hok a ρ rfl v C H (Post.refl e) r
theorem At.nil {α' α : Type} {R : Rel α' α} {t : Rd1 α'} : At K W R σ C H ρ t Option.none := by
 intro out Q ho
 cases ho
theorem At.imp {α' α : Type} {R : Rel α' α} {t t' : Rd1 α'} {o : Option (Out α)} (h : At K W R σ C H ρ t o) (i : ∀ Q, t H Q → t' H Q) : At K W R σ C H ρ t' o :=
 fun out Q ho hok hex => i Q (h out Q ho hok hex)
theorem At.of {α' α : Type} {R : Rel α' α} {t : Rd1 α'} {a : α} {ρ' : En} (h : ∀ Q : α' → Hp → Prop, (∀ v C' H', Post K σ C H ρ C' H' ρ' → R C' H' σ ρ' v a → Q v H') → t H Q) : At K W R σ C H ρ t (some (.ok a ρ')) := by
 intro out Q ho hok hex
 cases ho
 exact h Q (hok a ρ' rfl)
def VRel (K : PySem.W.Frag) (H0 : Hp) : Rel V Rv := fun C H σ ρ v r => VOk K H0 C H σ ρ v r
def DRel (K : PySem.W.Frag) (_ : Hp) : Rel V D := fun C _ _ _ v d => Is K C d v
def j4 (K : PySem.W.Frag) (_ : Hp) : Rel (List V) (List D) := fun C _ _ _ vs ds => Iss K C ds vs
def BRel (_ : Hp) : Rel Bool Bool := fun _ _ _ _ v b => v = b
def IRel (_ : Hp) : Rel (Option Int) (Option Int) := fun _ _ _ _ v b => v = b
def Pk (K : PySem.W.Frag) (C H : Hp) : D → V → Prop
 | .lst ds, v => ∃ a xs, v = .ref a ∧ H a = some (.lst xs) ∧ Iss K C ds xs
 | .obj c fs, v => ∃ a dx gs, v = .ref a ∧ H a = some (.ins c dx gs) ∧ Isf K C fs gs
 | d, v => Is K C d v
theorem Pk.of {d : D} {v : V} (e : Ex C H) (h : Is K C d v) : Pk K C H d v := by
 cases d with
 | lst ds =>
  obtain ⟨a, xs, h1, h2, h3⟩ := is_lst_iff.mp h
  exact ⟨a, xs, h1, e.1 _ _ h2 ko, h3⟩
 | s x => exact h
 | tup ds => exact h
 | obj c fs =>
  obtain ⟨a, dx, gs, h1, h2, h3⟩ := is_obj_iff.mp h
  exact ⟨a, dx, gs, h1, e.1 _ _ h2 nt_ins, h3⟩
 | ro ds => exact h
 | lam f c zs ks => exact h
 | dic kvs => exact h
 | exc c b fs => exact h
 | lab a d => exact h
theorem mis_pk {m : M} {d : D} {a : Addr} {o : HO} (e : mdat m = some d) (h : MIs K C m o) (ha : H a = some o) : Pk K C H d (.ref a) := by
 cases m with
 | lst ds =>
  obtain ⟨xs, h1, h2⟩ := h
  cases e
  subst h1
  exact ⟨a, xs, rfl, ha, h2⟩
 | dk ds => cases e
 | dt ds => cases e
 | dn _ _ _ => cases e
 | ob c fs =>
  obtain ⟨dx, gs, h1, h2⟩ := h
  cases e
  subst h1
  exact ⟨a, dx, gs, rfl, ha, h2⟩
theorem wg {H0 : Hp} {v : V} {r : Rv} {d : D} (e : EnvOk K C H σ ρ) (h : VOk K H0 C H σ ρ v r) (p : peek ρ r = some d) : Pk K C H d v := by
 cases r with
 | dat d' => cases p; exact Pk.of e.ext h
 | new m =>
  obtain ⟨a, o, rfl, h2, h3, h4, h5, h6⟩ := h
  exact mis_pk p h4 h3
 | bor i =>
  obtain ⟨h1, c, h2⟩ := h
  have p' : cdat c = some d := by
   have q : peek ρ (.bor i) = cdat c := by simp only [peek, h2]
   rw [← q]; exact p
  obtain ⟨x, hx, ok⟩ := e.cell i c h2
  rw [h1] at hx; cases hx
  cases c with
  | no => cases p'
  | dat d' => cases p'; obtain ⟨y, hy, z⟩ := ok; cases hy; exact Pk.of e.ext z
  | own m =>
   obtain ⟨q, o, h3, h4, h5, h6⟩ := ok
   cases h3
   exact mis_pk p' h6 h5
theorem EnvOk.step {C' H' : Hp} (e : EnvOk K C H σ ρ) (s : Step C H C' H' (fun _ => False)) : EnvOk K C' H' σ ρ := by
 refine ⟨e.len, s.ext, fun i c h => ?_, e.inj, fun P h => s.tabs P (e.tab P h)⟩
 obtain ⟨v, hv, ok⟩ := e.cell i c h
 refine ⟨v, hv, ?_⟩
 cases c with
 | no => trivial
 | dat d => obtain ⟨y, hy, z⟩ := ok; exact ⟨y, hy, Is.mono s.core d y z⟩
 | own m =>
  obtain ⟨p, o, q1, q2, q3, q4⟩ := ok
  refine ⟨p, o, q1, ?_, s.keep p o q3 q4.nx.1 (fun z => z), q4.mono s.core⟩
  cases q : C' p with
  | none => rfl
  | some u =>
   rcases s.new p q2 (by rw [q]; exact fun z => by cases z) with z | z
   ·rw [z] at q3; cases q3
   ·exact z.elim
theorem Post.of_step {C' H' : Hp} (e : EnvOk K C H σ ρ) (s : Step C H C' H' (fun _ => False)) : Post K σ C H ρ C' H' ρ :=
 ⟨s.weak fun _ z => z.elim, fun _ h => h, e.step s⟩
theorem Step.newD {p : Addr} {o : HO} (e : Ex C H) (h : H p = none) : Step C H (upd C p o) (upd H p o) (fun _ => False) := by
 have hc : C p = none := e.none h
 refine ⟨Ex.new hc, ⟨fun b u q n => ?_, fun b q => ?_⟩, fun b u q _ _ => ?_, fun b q1 q2 => ?_, fun b q => ?_, fun P q => jw q h⟩
 ·by_cases hb : b = p
  ·subst hb; rw [upd_same] at q ⊢; exact q
  ·rw [upd_ne hb] at q ⊢; exact e.1 b u q n
 ·by_cases hb : b = p
  ·subst hb; rw [upd_same] at q; cases q
  ·rw [upd_ne hb] at q ⊢; exact e.2 b q
 ·rw [upd_ne (ne_of_none q h)]; exact q
 ·by_cases hb : b = p
  ·subst hb; exact .inl h
  ·rw [upd_ne hb] at q2; exact absurd q1 q2
 ·by_cases hb : b = p
  ·subst hb; rw [upd_same] at q; cases q
  ·rw [upd_ne hb] at q; exact q
theorem Step.newM {p : Addr} {o : HO} (e : Ex C H) (h : H p = none) : Step C H C (upd H p o) (fun _ => False) := by
 refine ⟨Ex.refl C, e.trans (Ex.new h), fun b u q _ _ => ?_, fun b q1 q2 => absurd q1 q2, fun b q => ?_, fun P q => jw q h⟩
 ·rw [upd_ne (ne_of_none q h)]; exact q
 ·by_cases hb : b = p
  ·subst hb; exact h
  ·rw [upd_ne hb] at q; exact q
def RvOk (K : PySem.W.Frag) (C H0 C' H' : Hp) (v : V) : Rv → Prop
 | .dat d => Is K C' d v
 | .new m => ∃ p o, v = .ref p ∧ H0 p = none ∧ C' p = none ∧ H' p = some o ∧ MIs K C' m o
 | .bor _ => False
theorem RvOk.vok {H0 C' H' : Hp} {v : V} {r : Rv} (e : EnvOk K C H σ ρ) (h : RvOk K C H C' H' v r) (hd : ∀ b, H b = none → H0 b = none) : VOk K H0 C' H' σ ρ v r := by
 cases r with
 | dat d => exact h
 | new m =>
  obtain ⟨p, o, h1, h2, h3, h4, h5⟩ := h
  refine ⟨p, o, h1, h3, h4, h5, fun ⟨i, m', q1, q2⟩ => ?_, hd p h2⟩
  obtain ⟨v, hv, b, o', r1, r2, r3, _⟩ := e.cell i _ q1
  rw [q2] at hv; cases hv; cases r1
  rw [h2] at r3; cases r3
 | bor i => exact h.elim
def Giv (K : PySem.W.Frag) (C H : Hp) (r : Rv) (Q : VK) : Prop := ∀ v C' H', Step C H C' H' (fun _ => False) → RvOk K C H C' H' v r → Q v H'
theorem Giv.d {x : V} {Q : VK} (e : Ex C H) (g : Giv K C H (.dat (.s x)) Q) : Q x H := g x C H (Step.refl e) (show Is K C (.s x) x from is_s)
theorem Giv.same {d : D} {v : V} {Q : VK} (e : Ex C H) (g : Giv K C H (.dat d) Q) (h : Is K C d v) : Q v H := g v C H (Step.refl e) h
theorem Giv.lst {ds : List D} {xs : List V} {Q : VK} (e : Ex C H) (g : Giv K C H (.new (.lst ds)) Q) (h : Iss K C ds xs) {p : Addr} (hp : H p = none) : Q (.ref p) (upd H p (.lst xs)) :=
 g _ C _ (Step.newM e hp) ⟨p, _, rfl, hp, e.none hp, upd_same, xs, rfl, h⟩
theorem Giv.tup {ds : List D} {xs : List V} {Q : VK} (e : Ex C H) (g : Giv K C H (.dat (.tup ds)) Q) (h : Iss K C ds xs) {p : Addr} {o : Obj} (hp : H p = none) (hd : o.dict = none) : Q (.ref p) (upd H p (.frz o (.tup xs))) :=
 g _ _ _ (Step.newD e hp) (is_tup (.of upd_same hd) (Iss.mono (Ex.new (e.none hp)) ds xs h))
def R2Ok (K : PySem.W.Frag) (r : R2) (op : D → D → Option Rv) : Prop :=
 ∀ C H, Ex C H → ∀ dx dy x y rv Q, op dx dy = some rv → Pk K C H dx x → Pk K C H dy y → Giv K C H rv Q → r x y H Q
def R1Ok (K : PySem.W.Frag) (r : V → Hp → VK → Prop) (op : D → Option Rv) : Prop :=
 ∀ C H, Ex C H → ∀ dx x rv Q, op dx = some rv → Pk K C H dx x → Giv K C H rv Q → r x H Q
inductive Pks (K : PySem.W.Frag) (C H : Hp) : List D → List V → Prop where
 | nil : Pks K C H [] []
 | cons {d : D} {v : V} {ds : List D} {vs : List V} (h : Pk K C H d v) (t : Pks K C H ds vs) : Pks K C H (d :: ds) (v :: vs)
def RCOk (K : PySem.W.Frag) (r : List V → Hp → VK → Prop) (op : List D → Option Rv) : Prop :=
 ∀ C H, Ex C H → ∀ ds vs rv Q, op ds = some rv → Pks K C H ds vs → Giv K C H rv Q → r vs H Q
theorem At.giv {H0 : Hp} {r : Rd1 V} {rv : Rv} (e : EnvOk K C H σ ρ) (hd : ∀ b, H b = none → H0 b = none) (h : ∀ Q, Giv K C H rv Q → r H Q) : At K W (VRel K H0) σ C H ρ r (some (.ok rv ρ)) :=
 At.of fun Q hq => h Q fun v C' H' s k => hq v C' H' (Post.of_step e s) (k.vok e hd)
end
def fVar (i : Nat) : P Rv := fun ρ => match ρ[i]? with
 | some (.dat d) => some (.ok (.dat d) ρ)
 | some (.own _) => some (.ok (.bor i) ρ)
 | _ => none
def fC (d : D) : P Rv := fun ρ => some (.ok (.dat d) ρ)
def pk1 (r : Rv) (k : D → P Rv) : P Rv := fun ρ => match peek ρ r with
 | some d => k d ρ
 | none => none
def fOp (op : D → D → Option Rv) (fa fb : P Rv) : P Rv := fa.bind fun ra => fb.bind fun rb => pk1 ra fun da => pk1 rb fun db => P.of (op da db)
def fUn (op : D → Option Rv) (fa : P Rv) : P Rv := fa.bind fun ra => pk1 ra fun da => P.of (op da)
section
variable {K : PySem.W.Frag} {W : WX} {σ : Sl} {C H : Hp} {ρ : En}
theorem At.pk1 {α' : Type} {R : Rel α' Rv} {t : Rd1 α'} {r : Rv} {k : D → P Rv} (h : ∀ d, peek ρ r = some d → At K W R σ C H ρ t (k d ρ)) : At K W R σ C H ρ t (pk1 r k ρ) := by
 unfold PL.pk1
 cases q : peek ρ r with
 | none => exact At.nil
 | some d => exact h d q
theorem At.pof {α' α : Type} {R : Rel α' α} {t : Rd1 α'} {o : Option α} (h : ∀ a, o = some a → At K W R σ C H ρ t (some (.ok a ρ))) : At K W R σ C H ρ t (P.of o ρ) := by
 unfold P.of
 cases q : o with
 | none => exact At.nil
 | some a => exact h a q
end
section
variable {K : PySem.W.Frag} {W : WX} {ta tb : TE} {fa fb : P Rv}
theorem sd_var {i : Nat} : Sd K W (VRel K) (tVar i) (fVar i) := by
 intro σ C H ρ e
 unfold fVar
 cases q : ρ[i]? with
 | none => exact At.nil
 | some c =>
  obtain ⟨v, hv, ok⟩ := e.cell i c q
  cases c with
  | no => exact At.nil
  | dat d =>
   obtain ⟨x, rfl, z⟩ := ok
   exact At.imp (At.ret (R := VRel K H) (v := x) e z) fun Q h => ⟨x, hv, h⟩
  | own m =>
   obtain ⟨p, o, rfl, _⟩ := ok
   exact At.imp (At.ret (R := VRel K H) (v := .ref p) e ⟨hv, _, q⟩) fun Q h => ⟨.ref p, hv, h⟩
theorem sd_c {x : V} : Sd K W (VRel K) (tC x) (fC (.s x)) := fun σ C H ρ e => At.ret (R := VRel K H) e (show Is K C (.s x) x from is_s)
theorem sd_op {r : R2} {op : D → D → Option Rv} (hr : R2Ok K r op) (ha : Sd K W (VRel K) ta fa) (hb : Sd K W (VRel K) tb fb) : Sd K W (VRel K) (tOp r ta tb) (fOp op fa fb) := by
 intro σ C H ρ e
 show At K W (VRel K H) σ C H ρ (fun H Q => ta σ H fun x H1 => tb σ H1 fun y H2 => r x y H2 Q) (jf (fa ρ) fun ra => fb.bind fun rb => pk1 ra fun da => pk1 rb fun db => P.of (op da db))
 refine At.bind (tk := fun x H1 Q => tb σ H1 fun y H2 => r x y H2 Q) (ha σ C H ρ e) fun ra ρ1 x C1 H1 p1 r1 => ?_
 refine At.bind (tk := fun y H2 Q => r x y H2 Q) (hb σ C1 H1 ρ1 p1.env) fun rb ρ2 y C2 H2 p2 r2 => ?_
 have r1' := VOk.mono r1 p1.env p2
 refine At.pk1 fun da q1 => At.pk1 fun db q2 => At.pof fun rv q3 => ?_
 exact At.giv p2.env (fun b h => p1.step.dom b (p2.step.dom b h)) fun Q g => hr C2 H2 p2.env.ext da db x y rv Q q3 (wg p2.env r1' q1) (wg p2.env r2 q2) g
theorem sd_un {r : V → Hp → VK → Prop} {op : D → Option Rv} (hr : R1Ok K r op) (ha : Sd K W (VRel K) ta fa) : Sd K W (VRel K) (tUn r ta) (fUn op fa) := by
 intro σ C H ρ e
 show At K W (VRel K H) σ C H ρ (fun H Q => ta σ H fun x H1 => r x H1 Q) (jf (fa ρ) fun ra => pk1 ra fun da => P.of (op da))
 refine At.bind (tk := fun x H1 Q => r x H1 Q) (ha σ C H ρ e) fun ra ρ1 x C1 H1 p1 r1 => ?_
 refine At.pk1 fun da q1 => At.pof fun rv q3 => ?_
 exact At.giv p1.env (fun b h => p1.step.dom b h) fun Q g => hr C1 H1 p1.env.ext da x rv Q q3 (wg p1.env r1 q1) g
end
def fNil : P (List Rv) := P.ret []
def yd (fa : P Rv) (fr : P (List Rv)) : P (List Rv) := fa.bind fun ra => fr.bind fun rs => P.ret (ra :: rs)
def jv (ρ : En) : List Rv → Option (List D)
 | [] => some []
 | r :: rs => match peek ρ r, jv ρ rs with
  | some d, some ds => some (d :: ds)
  | _, _ => none
def pks (rs : List Rv) {α : Type} (k : List D → P α) : P α := fun ρ => match jv ρ rs with
 | some ds => k ds ρ
 | none => none
def vNil : P (List D) := P.ret []
def grab1 (r : Rv) : P D := fun ρ => match grab ρ r with
 | some (d, ρ') => some (.ok d ρ')
 | none => none
def xt (fa : P Rv) : P D := fa.bind grab1
def ya (fa : P Rv) (fr : P (List D)) : P (List D) := (xt fa).bind fun d => fr.bind fun ds => P.ret (d :: ds)
def fTup (g : P (List D)) : P Rv := g.bind fun ds => P.of (if ds.length ≤ sizeLine then some (.dat (.tup ds)) else none)
def fLst (g : P (List D)) : P Rv := g.bind fun ds => P.of (if ds.length ≤ sizeLine then some (.new (.lst ds)) else none)
def fCB (op : List D → Option Rv) (fs : P (List Rv)) : P Rv := fs.bind fun rs => pks rs fun ds => P.of (op ds)
inductive VOks (K : PySem.W.Frag) (H0 C H : Hp) (σ : Sl) (ρ : En) : List V → List Rv → Prop where
 | nil : VOks K H0 C H σ ρ [] []
 | cons {v : V} {r : Rv} {vs : List V} {rs : List Rv} (h : VOk K H0 C H σ ρ v r) (t : VOks K H0 C H σ ρ vs rs) : VOks K H0 C H σ ρ (v :: vs) (r :: rs)
theorem VOks.mono {K : PySem.W.Frag} {σ : Sl} {H0 C H C' H' : Hp} {ρ ρ' : En} {vs : List V} {rs : List Rv} (h : VOks K H0 C H σ ρ vs rs) (e : EnvOk K C H σ ρ) (p : Post K σ C H ρ C' H' ρ') : VOks K H0 C' H' σ ρ' vs rs := by
 induction h with
 | nil => exact .nil
 | cons h t ih => exact .cons (h.mono e p) ih
theorem VOks.back {K : PySem.W.Frag} {σ : Sl} {H0 H1 C H : Hp} {ρ : En} {vs : List V} {rs : List Rv} (h : VOks K H1 C H σ ρ vs rs) (d : ∀ b, H1 b = none → H0 b = none) : VOks K H0 C H σ ρ vs rs := by
 induction h with
 | nil => exact .nil
 | cons h t ih => exact .cons (h.back d) ih
theorem peeks_pk {K : PySem.W.Frag} {σ : Sl} {H0 C H : Hp} {ρ : En} {vs : List V} {rs : List Rv} (e : EnvOk K C H σ ρ) (h : VOks K H0 C H σ ρ vs rs) : ∀ {ds : List D}, jv ρ rs = some ds → Pks K C H ds vs := by
 induction h with
 | nil => intro ds q; cases q; exact .nil
 | @cons v r vs rs h t ih =>
  intro ds q
  cases q1 : peek ρ r with
  | none => simp only [jv, q1] at q; cases q
  | some d =>
   cases q2 : jv ρ rs with
   | none => simp only [jv, q1, q2] at q; cases q
   | some ds' =>
    simp only [jv, q1, q2] at q
    cases q
    exact .cons (wg e h q1) (ih q2)
theorem At.pks {K : PySem.W.Frag} {W : WX} {σ : Sl} {C H : Hp} {ρ : En} {α' α : Type} {R : Rel α' α} {t : Rd1 α'} {rs : List Rv} {k : List D → P α} (h : ∀ ds, jv ρ rs = some ds → At K W R σ C H ρ t (k ds ρ)) : At K W R σ C H ρ t (pks rs k ρ) := by
 unfold PL.pks
 cases q : jv ρ rs with
 | none => exact At.nil
 | some d => exact h d q
def vbh (K : PySem.W.Frag) (H0 : Hp) : Rel (List V) (List Rv) := fun C H σ ρ vs rs => VOks K H0 C H σ ρ vs rs
section
variable {K : PySem.W.Frag} {W : WX} {ta : TE} {tr : TA} {fa : P Rv} {fr : P (List Rv)} {gr : P (List D)}
theorem vc {α : Type} {c : Prop} [Decidable c] {a b : α} (h : (if c then some a else none) = some b) : c ∧ a = b := by
 by_cases hc : c
 ·rw [if_pos hc] at h; exact ⟨hc, Option.some.inj h⟩
 ·rw [if_neg hc] at h; cases h
theorem sd_nil : Sd K W (vbh K) tNil fNil := fun σ C H ρ e => At.ret (R := vbh K H) e VOks.nil
theorem sd_cons (ha : Sd K W (VRel K) ta fa) (hr : Sd K W (vbh K) tr fr) : Sd K W (vbh K) (tCons ta tr) (yd fa fr) := by
 intro σ C H ρ e
 show At K W (vbh K H) σ C H ρ (fun H Q => ta σ H fun x H1 => tr σ H1 fun xs H2 => Q (x :: xs) H2) (jf (fa ρ) fun ra => fr.bind fun rs => P.ret (ra :: rs))
 refine At.bind (tk := fun x H1 Q => tr σ H1 fun xs H2 => Q (x :: xs) H2) (ha σ C H ρ e) fun ra ρ1 x C1 H1 p1 r1 => ?_
 refine At.bind (tk := fun xs H2 Q => Q (x :: xs) H2) (hr σ C1 H1 ρ1 p1.env) fun rs ρ2 vs C2 H2 p2 r2 => ?_
 exact At.ret (R := vbh K H) (v := x :: vs) p2.env (VOks.cons (VOk.mono r1 p1.env p2) (r2.back p1.step.dom))
theorem zw (ha : Sd K W (VRel K) ta fa) : Sd K W (DRel K) ta (xt fa) := by
 intro σ C H ρ e out Q ho hok hex
 unfold xt P.bind at ho
 cases q : fa ρ with
 | none => rw [q] at ho; cases ho
 | some oa =>
  rw [q] at ho
  refine ha σ C H ρ e oa Q q (fun ra ρ1 e1 v C1 H1 p1 r1 => ?_) (fun x ρ1 e1 d C1 H1 p1 r1 => ?_)
  ·subst e1
   have ho : grab1 ra ρ1 = some out := ho
   unfold grab1 at ho
   cases q2 : grab ρ1 ra with
   | none => rw [q2] at ho; cases ho
   | some z =>
    obtain ⟨d, ρ2⟩ := z
    rw [q2] at ho
    cases ho
    obtain ⟨C2, h1, h2, h3, h4, h5⟩ := grab_ok p1.env r1 q2
    refine hok d ρ2 rfl v C2 H1 ⟨⟨p1.step.core.trans h3, h2.ext, p1.step.keep, fun b k1 k2 => ?_, p1.step.dom, p1.step.tabs⟩, fun a z => p1.own a (h4 a z), h2⟩ h1
    cases q3 : C1 b with
    | some o => exact p1.step.new b k1 (by rw [q3]; exact fun z => by cases z)
    | none =>
     rcases h5 b q3 k2 with z | z | z
     ·exact .inl (p1.step.dom b z)
     ·exact .inr (p1.own b z)
     ·exact .inl z
  ·subst e1
   cases ho
   exact hex x ρ1 rfl d C1 H1 p1 r1
theorem sg_nil : Sd K W (j4 K) tNil vNil := fun σ C H ρ e => At.ret (R := j4 K H) e qf
theorem yaa (ha : Sd K W (VRel K) ta fa) (hr : Sd K W (j4 K) tr gr) : Sd K W (j4 K) (tCons ta tr) (ya fa gr) := by
 intro σ C H ρ e
 show At K W (j4 K H) σ C H ρ (fun H Q => ta σ H fun x H1 => tr σ H1 fun xs H2 => Q (x :: xs) H2) (jf (xt fa ρ) fun d => gr.bind fun ds => P.ret (d :: ds))
 refine At.bind (tk := fun x H1 Q => tr σ H1 fun xs H2 => Q (x :: xs) H2) (zw ha σ C H ρ e) fun d ρ1 x C1 H1 p1 r1 => ?_
 refine At.bind (tk := fun xs H2 Q => Q (x :: xs) H2) (hr σ C1 H1 ρ1 p1.env) fun ds ρ2 vs C2 H2 p2 r2 => ?_
 exact At.ret (R := j4 K H) (v := x :: vs) p2.env (kc (Is.mono p2.step.core d x r1) r2)
theorem sd_tup {tg : TA} {g : P (List D)} (hg : Sd K W (j4 K) tg g) : Sd K W (VRel K) (tTupP tg) (fTup g) := by
 intro σ C H ρ e
 show At K W (VRel K H) σ C H ρ (fun H Q => tg σ H fun xs H1 => xs.length ≤ sizeLine ∧ ∀ p o, H1 p = none → o.dict = none → Q (.ref p) (upd H1 p (.frz o (.tup xs)))) (jf (g ρ) fun ds => P.of (if ds.length ≤ sizeLine then some (.dat (.tup ds)) else none))
 refine At.bind (tk := fun (xs : List V) (H1 : Hp) (Q : VK) => xs.length ≤ sizeLine ∧ ∀ p o, H1 p = none → o.dict = none → Q (.ref p) (upd H1 p (.frz o (.tup xs)))) (hg σ C H ρ e) fun ds ρ1 xs C1 H1 p1 r1 => ?_
 refine At.pof fun rv q => ?_
 obtain ⟨hl, rfl⟩ := vc q
 exact At.giv p1.env p1.step.dom fun Q g => ⟨by rw [r1.length]; exact hl, fun p o hp hd => g.tup p1.env.ext r1 hp hd⟩
theorem sd_lst {tg : TA} {g : P (List D)} (hg : Sd K W (j4 K) tg g) : Sd K W (VRel K) (tLst tg) (fLst g) := by
 intro σ C H ρ e
 show At K W (VRel K H) σ C H ρ (fun H Q => tg σ H fun xs H1 => xs.length ≤ sizeLine ∧ ∀ p, H1 p = none → Q (.ref p) (upd H1 p (.lst xs))) (jf (g ρ) fun ds => P.of (if ds.length ≤ sizeLine then some (.new (.lst ds)) else none))
 refine At.bind (tk := fun (xs : List V) (H1 : Hp) (Q : VK) => xs.length ≤ sizeLine ∧ ∀ p, H1 p = none → Q (.ref p) (upd H1 p (.lst xs))) (hg σ C H ρ e) fun ds ρ1 xs C1 H1 p1 r1 => ?_
 refine At.pof fun rv q => ?_
 obtain ⟨hl, rfl⟩ := vc q
 exact At.giv p1.env p1.step.dom fun Q g => ⟨by rw [r1.length]; exact hl, fun p hp => g.lst p1.env.ext r1 hp⟩
theorem sd_cb {r : List V → Hp → VK → Prop} {op : List D → Option Rv} (hr : RCOk K r op) {t : TA} {fs : P (List Rv)} (hs : Sd K W (vbh K) t fs) : Sd K W (VRel K) (tCB r t) (fCB op fs) := by
 intro σ C H ρ e
 show At K W (VRel K H) σ C H ρ (fun H Q => t σ H fun vs H1 => r vs H1 Q) (jf (fs ρ) fun rs => pks rs fun ds => P.of (op ds))
 refine At.bind (tk := fun vs H1 Q => r vs H1 Q) (hs σ C H ρ e) fun rs ρ1 vs C1 H1 p1 r1 => ?_
 refine At.pks fun ds q1 => At.pof fun rv q3 => ?_
 exact At.giv p1.env p1.step.dom fun Q g => hr C1 H1 p1.env.ext ds vs rv Q q3 (peeks_pk p1.env r1 q1) g
end
end PL
namespace PL
open PySem L2
abbrev rvI (i : Int) : Rv := .dat (.s (.int i))
abbrev rvB (b : Bool) : Rv := .dat (.s (.bl b))
abbrev rvS (x : Str) : Rv := .dat (.s (.str x))
section
variable {K : PySem.W.Frag} {C H : Hp}
theorem pk_s {x v : V} : Pk K C H (.s x) v ↔ v = x := show Is K C (.s x) v ↔ v = x from is_s_iff
theorem v7 {ds : List D} {v : V} (e : Ex C H) : Pk K C H (.tup ds) v → ∃ a xs, v = .ref a ∧ SqT K H a xs ∧ Iss K C ds xs := fun h => by
 obtain ⟨a, xs, h1, h2, h3⟩ := yr h
 exact ⟨a, xs, h1, ex_t e h2, h3⟩
theorem pk_ro {ds : List D} {v : V} (e : Ex C H) : Pk K C H (.ro ds) v → ∃ a xs, v = .ref a ∧ SqL K H a xs ∧ Iss K C ds xs := fun h => by
 obtain ⟨a, xs, h1, h2, h3⟩ := is_ro_iff.mp h
 exact ⟨a, xs, h1, ex_l e h2, h3⟩
theorem pk_obj {c : Addr} {fs : List (Str × D)} {v : V} (e : Ex C H) : Pk K C H (.obj c fs) v → ∃ a dx gs, v = .ref a ∧ H a = some (.ins c dx gs) ∧ Isf K C fs gs := fun h => h
def addD : D → D → Option Rv
 | .s (.int i), .s (.int j) => some (rvI (i + j))
 | .s (.str a), .s (.str b) => if a.length + b.length ≤ sizeLine then some (rvS (a ++ b)) else none
 | .lst a, .lst b => if a.length + b.length ≤ sizeLine then some (.new (.lst (a ++ b))) else none
 | .tup a, .tup b => if a.length + b.length ≤ sizeLine then some (.dat (.tup (a ++ b))) else none
 | _, _ => none
def rAddX (K : PySem.W.Frag) : R2 := fun x y H Q => rI0 (fun i j => .int (i + j)) x y H Q ∨ (∃ i j, x = .str i ∧ y = .str j ∧ i.length + j.length ≤ sizeLine ∧ Q (.str (i ++ j)) H) ∨ rCat x y H Q ∨ rCatP K x y H Q
theorem op_addX {X : Cx} : OpR X (binaryOp .Add) (rAddX X.K) := op_add.or (op_add_str.or (op_cat.or op_catP))
theorem ok_add : R2Ok K (rAddX K) addD := by
 intro C H e dx dy x y rv Q h hx hy g
 unfold addD at h
 split at h
 ·cases pk_s.mp hx; cases pk_s.mp hy; cases h
  exact .inl ⟨_, _, rfl, rfl, g.d e⟩
 ·cases pk_s.mp hx; cases pk_s.mp hy
  obtain ⟨h1, rfl⟩ := vc h
  exact .inr (.inl ⟨_, _, rfl, rfl, h1, g.d e⟩)
 ·obtain ⟨a, xs, rfl, h1, h2⟩ := hx
  obtain ⟨b, ys, rfl, h3, h4⟩ := hy
  obtain ⟨h5, rfl⟩ := vc h
  exact .inr (.inr (.inl ⟨a, b, xs, ys, rfl, rfl, h1, h3, by rw [h2.length, h4.length]; exact h5, fun p hp => g.lst e (h2.app h4) hp⟩))
 ·have hx0 := hx
  have hy0 := hy
  obtain ⟨a, xs, rfl, h1, h2⟩ := v7 e hx
  obtain ⟨b, ys, rfl, h3, h4⟩ := v7 e hy
  obtain ⟨h5, rfl⟩ := vc h
  rename_i p q
  refine .inr (.inr (.inr ⟨a, b, xs, ys, rfl, rfl, h1, h3, by rw [h2.length, h4.length]; exact h5, fun z => ?_, fun z1 z => ?_, fun z1 z2 p o hp hd => g.tup e (h2.app h4) hp hd⟩))
  ·have e0 : p = [] := by
    cases p with
    | nil => rfl
    | cons u r => rw [z] at h2; obtain ⟨_, _, q, _⟩ := iss_cons_iff.mp h2; cases q
   subst e0
   exact g.same e hy0
  ·have e0 : q = [] := by
    cases q with
    | nil => rfl
    | cons u r => rw [z] at h4; obtain ⟨_, _, q, _⟩ := iss_cons_iff.mp h4; cases q
   subst e0
   rw [List.append_nil] at g
   exact g.same e hx0
 ·cases h
def subD : D → D → Option Rv
 | .s (.int i), .s (.int j) => some (rvI (i - j))
 | _, _ => none
def modD : D → D → Option Rv
 | .s (.int i), .s (.int j) => if 0 < j then some (rvI (i % j)) else none
 | _, _ => none
theorem ok_mod : R2Ok K (rI (fun _ j => 0 < j) fun i j => .int (i % j)) modD := by
 intro C H e dx dy x y rv Q h hx hy g
 unfold modD at h
 split at h
 ·cases pk_s.mp hx; cases pk_s.mp hy
  obtain ⟨h1, rfl⟩ := vc h
  exact ⟨_, _, rfl, rfl, h1, g.d e⟩
 ·cases h
def za3 : D → D → Option Rv
 | .s (.int i), .s (.int j) => if 0 < j ∧ j < 1073741824 then some (rvI (i / j)) else none
 | _, _ => none
theorem ok_fdiv : R2Ok K (rI CDiv fun i j => .int (i / j)) za3 := by
 intro C H e dx dy x y rv Q h hx hy g
 unfold za3 at h
 split at h
 ·cases pk_s.mp hx; cases pk_s.mp hy
  obtain ⟨h1, rfl⟩ := vc h
  exact ⟨_, _, rfl, rfl, h1, g.d e⟩
 ·cases h
def qas (a : Str) (j : Int) : Bool := decide (0 ≤ j) && decide (j ≤ 1000) && decide (a.length ≤ 1000)
theorem mulOk_of {a : Str} {j : Int} (h : qas a j = true) : PySem.MulOk a j := by
 unfold qas at h
 simp only [Bool.and_eq_true, decide_eq_true_eq] at h
 obtain ⟨⟨h1, h2⟩, h3⟩ := h
 have e1 : decide (j < -(2 ^ 63 : Int)) = false := decide_eq_false (by omega)
 have e2 : decide (j ≥ 2 ^ 63) = false := decide_eq_false (by omega)
 refine ⟨by rw [e1, e2]; rfl, fun n1 _ => ?_, fun n1 _ => ?_⟩
 ·have p : 0 < j := by omega
  intro q
  have q2 := (Int.ediv_lt_iff_lt_mul p).mp q
  have q3 : (a.length : Int) * j ≤ 1000 * 1000 := Int.mul_le_mul (by omega) h2 (by omega) (by decide)
  omega
 ·unfold Builtin.Str.tooLong
  have a1 : a.length * j.toNat ≤ 1000 * 1000 := Nat.mul_le_mul h3 (by omega)
  rw [sizeLine_eq]
  exact decide_eq_false (by omega)
def xbp (i j : Int) : Bool := decide (i.natAbs < 18446744073709551616) || decide (j.natAbs < 18446744073709551616)
theorem bits64 {i : Int} (h : i.natAbs < 18446744073709551616) : Builtin.Int.intBits i ≤ 64 := by
 unfold Builtin.Int.intBits
 split
 ·omega
 ·have := (Nat.log2_lt (n := i.natAbs) (k := 64) (by rename_i q; simpa using q)).mpr (by simpa using h)
  omega
theorem mulIB_ok {i j : Int} (h : xbp i j = true) : PySem.IntMulOk i j := by
 unfold xbp at h
 rcases Bool.or_eq_true_iff.mp h with z | z
 ·exact PySem.IntMulOk.of_left (bits64 (of_decide_eq_true z))
 ·exact PySem.IntMulOk.of_right (bits64 (of_decide_eq_true z))
theorem op_mulI {X : Cx} : OpR X (binaryOp .Mult) (rI PySem.IntMulOk fun i j => .int (i * j)) := opI fun _ _ _ _ _ _ _ hc q => PySem.P.mul_int q hc
def mulD : D → D → Option Rv
 | .s (.int i), .s (.int j) => if xbp i j = true then some (rvI (i * j)) else none
 | .s (.str a), .s (.int j) => if qas a j = true then some (rvS (Txt.mul a j)) else none
 | _, _ => none
theorem op_mul_str {X : Cx} : OpR X (binaryOp .Mult) (fun x y H Q => ∃ i j, x = .str i ∧ y = .int j ∧ PySem.MulOk i j ∧ Q (.str (Txt.mul i j)) H) := by
 intro pins s σ H x y v u Q I rx ry h
 obtain ⟨i, j, rfl, rfl, hz, q⟩ := h
 obtain ⟨t, rfl⟩ := rx
 obtain ⟨t', rfl⟩ := ry
 exact PySem.SB.mul hz fun t' k => ⟨.str (Txt.mul i j), H, I.tok _, ⟨_, rfl⟩, q⟩
def rMulX (K : PySem.W.Frag) : R2 := fun x y H Q => rI PySem.IntMulOk (fun i j => .int (i * j)) x y H Q ∨ (∃ i j, x = .str i ∧ y = .int j ∧ PySem.MulOk i j ∧ Q (.str (Txt.mul i j)) H)
theorem op_mulX {X : Cx} : OpR X (binaryOp .Mult) (rMulX X.K) := op_mulI.or op_mul_str
theorem ok_mul : R2Ok K (rMulX K) mulD := by
 intro C H e dx dy x y rv Q h hx hy g
 unfold mulD at h
 split at h
 ·cases pk_s.mp hx; cases pk_s.mp hy
  obtain ⟨h1, rfl⟩ := vc h
  exact .inl ⟨_, _, rfl, rfl, mulIB_ok h1, g.d e⟩
 ·cases pk_s.mp hx; cases pk_s.mp hy
  obtain ⟨h1, rfl⟩ := vc h
  exact .inr ⟨_, _, rfl, rfl, mulOk_of h1, g.d e⟩
 ·cases h
def negD : D → Option Rv
 | .s (.int i) => some (rvI (-i))
 | _ => none
theorem ok_neg : R1Ok K (rU fun i => .int (-i)) negD := by
 intro C H e dx x rv Q h hx g
 unfold negD at h
 split at h
 ·cases pk_s.mp hx; cases h
  exact ⟨_, rfl, g.d e⟩
 ·cases h
mutual
def toPy : D → Option PyData
 | .s .non => some .none
 | .s (.bl b) => some (.bool b)
 | .s (.int i) => some (.int i)
 | .s (.str x) => some (.str x)
 | .s _ => none
 | .tup ds => match xaa ds with
  | some l => some (.tuple l)
  | none => none
 | .lst ds => match xaa ds with
  | some l => some (.list l)
  | none => none
 | .ro ds => match xaa ds with
  | some l => some (.list l)
  | none => none
 | .obj _ _ => none
 | .lam _ _ _ _ => none
 | .dic _ => none
 | .exc _ _ _ => none
 | .lab _ _ => none
def xaa : List D → Option (List PyData)
 | [] => some []
 | d :: ds => match toPy d with
  | none => none
  | some a => match xaa ds with
   | some l => some (a :: l)
   | none => none
end
mutual
theorem wba (e : Ex C H) : ∀ (d : D) (v : V) (a : PyData), toPy d = some a → Is K C d v → Dp K H v a
 | .s x, v, a, h, i => by
  cases is_s_iff.mp i
  cases x with
  | non => simp only [toPy] at h; cases h; exact .non
  | bl b => simp only [toPy] at h; cases h; exact .bl b
  | int k => simp only [toPy] at h; cases h; exact .int k
  | str x => simp only [toPy] at h; cases h; exact .str x
  | _ => simp only [toPy] at h; cases h
 | .tup ds, v, a, h, i => by
  obtain ⟨p, xs, rfl, h2, h3⟩ := yr i
  simp only [toPy] at h
  cases q : xaa ds with
  | none => rw [q] at h; cases h
  | some l => rw [q] at h; cases h; exact .tup (ex_t e h2) (zae e ds xs l q h3)
 | .lst ds, v, a, h, i => by
  obtain ⟨p, xs, rfl, h2, h3⟩ := is_lst_iff.mp i
  simp only [toPy] at h
  cases q : xaa ds with
  | none => rw [q] at h; cases h
  | some l => rw [q] at h; cases h; exact .lst (SqL.of (e.1 _ _ h2 ko)) (zae e ds xs l q h3)
 | .ro ds, v, a, h, i => by
  obtain ⟨p, xs, rfl, h2, h3⟩ := is_ro_iff.mp i
  simp only [toPy] at h
  cases q : xaa ds with
  | none => rw [q] at h; cases h
  | some l => rw [q] at h; cases h; exact .lst (ex_l e h2) (zae e ds xs l q h3)
 | .obj c fs, v, a, h, i => by simp only [toPy] at h; cases h
 | .lam f c zs ks, v, a, h, i => by simp only [toPy] at h; cases h
 | .dic kvs, v, a, h, i => by simp only [toPy] at h; cases h
 | .exc c b fs, v, a, h, i => by simp only [toPy] at h; cases h
 | .lab _ _, v, a, h, i => by simp only [toPy] at h; cases h
theorem zae (e : Ex C H) : ∀ (ds : List D) (vs : List V) (as : List PyData), xaa ds = some as → Iss K C ds vs → DpAll K H vs as
 | [], vs, as, h, i => by
  rw [iss_nil_iff.mp i]
  simp only [xaa] at h
  cases h
  exact .nil
 | d :: ds, vs, as, h, i => by
  obtain ⟨x, r, rfl, h2, h3⟩ := iss_cons_iff.mp i
  simp only [xaa] at h
  cases q : toPy d with
  | none => rw [q] at h; cases h
  | some a =>
   cases q2 : xaa ds with
   | none => rw [q, q2] at h; cases h
   | some l =>
    rw [q, q2] at h
    cases h
    exact .cons (wba e d x a q h2) (zae e ds r l q2 h3)
end
theorem qa3 {d : D} {v : V} {a : PyData} (e : Ex C H) (h : toPy d = some a) (i : Pk K C H d v) : Dp K H v a := by
 cases d with
 | lst ds =>
  obtain ⟨p, xs, rfl, h2, h3⟩ := i
  simp only [toPy] at h
  cases q : xaa ds with
  | none => rw [q] at h; cases h
  | some l => rw [q] at h; cases h; exact .lst (SqL.of h2) (zae e ds xs l q h3)
 | s x => exact wba e _ v a h i
 | tup ds => exact wba e _ v a h i
 | ro ds => exact wba e _ v a h i
 | obj c fs => simp only [toPy] at h; cases h
 | lam f c zs ks => simp only [toPy] at h; cases h
 | dic kvs => simp only [toPy] at h; cases h
 | exc c b fs => simp only [toPy] at h; cases h
 | lab a d => simp only [toPy] at h; cases h
def eqB (x y : D) : Option Bool := match toPy x with
 | none => none
 | some a => match toPy y with
  | none => none
  | some b => if (SeqAt.shaped a && SeqAt.shaped b) = true then some (PyData.eqv a b) else none
def eqD (x y : D) : Option Rv := match eqB x y with
 | some b => some (rvB b)
 | none => none
def neD (x y : D) : Option Rv := match eqB x y with
 | some b => some (rvB (!b))
 | none => none
theorem eqB_some {x y : D} {b : Bool} (h : eqB x y = some b) : ∃ a c, toPy x = some a ∧ toPy y = some c ∧ SeqAt.shaped a = true ∧ SeqAt.shaped c = true ∧ PyData.eqv a c = b := by
 unfold eqB at h
 cases q1 : toPy x with
 | none => rw [q1] at h; cases h
 | some a =>
  cases q2 : toPy y with
  | none => rw [q1, q2] at h; cases h
  | some c =>
   rw [q1, q2] at h
   obtain ⟨h1, h2⟩ := vc h
   obtain ⟨h3, h4⟩ := Bool.and_eq_true_iff.mp h1
   exact ⟨a, c, rfl, rfl, h3, h4, h2⟩
theorem ok_eq : R2Ok K (rEqD K) eqD := by
 intro C H e dx dy x y rv Q h hx hy g
 unfold eqD at h
 cases q : eqB dx dy with
 | none => rw [q] at h; cases h
 | some b =>
  rw [q] at h; cases h
  obtain ⟨a, c, h1, h2, h3, h4, rfl⟩ := eqB_some q
  exact ⟨a, c, qa3 e h1 hx, qa3 e h2 hy, h3, h4, g.d e⟩
theorem ok_ne : R2Ok K (rNeD K) neD := by
 intro C H e dx dy x y rv Q h hx hy g
 unfold neD at h
 cases q : eqB dx dy with
 | none => rw [q] at h; cases h
 | some b =>
  rw [q] at h; cases h
  obtain ⟨a, c, h1, h2, h3, h4, rfl⟩ := eqB_some q
  exact ⟨a, c, qa3 e h1 hx, qa3 e h2 hy, h3, h4, g.d e⟩
def strLt (a b : Str) : Bool := decide (a.cps.toList < b.cps.toList)
def ltD : D → D → Option Rv
 | .s (.int i), .s (.int j) => some (rvB (decide (i < j)))
 | .s (.str a), .s (.str b) => some (rvB (strLt a b))
 | _, _ => none
def leD : D → D → Option Rv
 | .s (.int i), .s (.int j) => some (rvB (decide (i ≤ j)))
 | _, _ => none
def gtD : D → D → Option Rv
 | .s (.int i), .s (.int j) => some (rvB (decide (j < i)))
 | _, _ => none
def geD : D → D → Option Rv
 | .s (.int i), .s (.int j) => some (rvB (decide (j ≤ i)))
 | _, _ => none
def rLtX : R2 := fun x y H Q => rI0 (fun i j => .bl (decide (i < j))) x y H Q ∨ (∃ i j, x = .str i ∧ y = .str j ∧ Q (.bl (decide (i.cps.toList < j.cps.toList))) H)
theorem op_ltX {X : Cx} : OpR X (compareOp .Lt) rLtX := op_lt.or op_lt_str
theorem ok_le : R2Ok K (rI0 fun i j => .bl (decide (i ≤ j))) leD := by
 intro C H e dx dy x y rv Q h hx hy g
 unfold leD at h
 split at h
 ·cases pk_s.mp hx; cases pk_s.mp hy; cases h
  exact ⟨_, _, rfl, rfl, g.d e⟩
 ·cases h
theorem ok_gt : R2Ok K (rI0 fun i j => .bl (decide (j < i))) gtD := by
 intro C H e dx dy x y rv Q h hx hy g
 unfold gtD at h
 split at h
 ·cases pk_s.mp hx; cases pk_s.mp hy; cases h
  exact ⟨_, _, rfl, rfl, g.d e⟩
 ·cases h
def isNone : D → Bool
 | .s .non => true
 | _ => false
theorem ya5 {d : D} {v : V} (h : Pk K C H d v) : decide (v = .non) = isNone d := by
 cases d with
 | s x =>
  have q := pk_s.mp h
  subst q
  cases v <;> simp [isNone]
 | tup ds => obtain ⟨a, xs, rfl, _⟩ := yr h; simp [isNone]
 | lst ds => obtain ⟨a, xs, rfl, _⟩ := h; simp [isNone]
 | ro ds => obtain ⟨a, xs, rfl, _⟩ := is_ro_iff.mp h; simp [isNone]
 | obj c fs => obtain ⟨a, dx, gs, rfl, _⟩ := h; simp [isNone]
 | lam f c zs ks => obtain ⟨rfl, _⟩ := is_lam_iff.mp (show Is K C (.lam f c zs ks) v from h); simp [isNone]
 | dic kvs => obtain ⟨a, _, xs, rfl, _⟩ := is_dic_iff.mp (show Is K C (.dic kvs) v from h); simp [isNone]
 | exc c b fs => obtain ⟨_, a, d, gs, rfl, _⟩ := is_exc_iff.mp (show Is K C (.exc c b fs) v from h); simp [isNone]
 | lab a d => obtain ⟨rfl, _⟩ := is_lab_iff.mp (show Is K C (.lab a d) v from h); simp [isNone]
def isD (x y : D) : Option Rv := match y with
 | .s .non => some (rvB (isNone x))
 | .s (.bl b) => match x with
  | .s (.bl a) => some (rvB (decide (a = b)))
  | _ => none
 | _ => none
def xaz (x y : D) : Option Rv := match y with
 | .s .non => some (rvB (!isNone x))
 | .s (.bl b) => match x with
  | .s (.bl a) => some (rvB (!decide (a = b)))
  | _ => none
 | _ => none
def rIsX : R2 := fun x y H Q => (y = .non ∧ Q (.bl (decide (x = .non))) H) ∨ rIsB x y H Q
def rIsNotX : R2 := fun x y H Q => (y = .non ∧ Q (.bl (!decide (x = .non))) H) ∨ rNotB x y H Q
theorem op_isX {X : Cx} : OpR X (compareOp .Is) rIsX := op_isN.or op_isBl
theorem op_isNotX {X : Cx} : OpR X (compareOp .IsNot) rIsNotX := op_notN.or op_notBl
theorem ok_is : R2Ok K rIsX isD := by
 intro C H e dx dy x y rv Q h hx hy g
 unfold isD at h
 split at h
 ·cases pk_s.mp hy; cases h
  exact .inl ⟨rfl, by rw [ya5 hx]; exact g.d e⟩
 ·split at h
  ·cases pk_s.mp hx; cases pk_s.mp hy; cases h
   exact .inr ⟨_, _, rfl, rfl, g.d e⟩
  ·cases h
 ·cases h
theorem ok_isNot : R2Ok K rIsNotX xaz := by
 intro C H e dx dy x y rv Q h hx hy g
 unfold xaz at h
 split at h
 ·cases pk_s.mp hy; cases h
  exact .inl ⟨rfl, by rw [ya5 hx]; exact g.d e⟩
 ·split at h
  ·cases pk_s.mp hx; cases pk_s.mp hy; cases h
   exact .inr ⟨_, _, rfl, rfl, g.d e⟩
  ·cases h
 ·cases h
def zbl : D → Bool
 | .s x => flatV x
 | _ => false
def sV : D → V
 | .s x => x
 | _ => .non
def items : D → Option (List D)
 | .tup ds => some ds
 | .lst ds => some ds
 | .ro ds => some ds
 | _ => none
theorem xbf : ∀ {ds : List D} {xs : List V}, Iss K C ds xs → ds.all zbl = true → xs = ds.map sV ∧ xs.all flatV = true
 | [], xs, h, f => by rw [iss_nil_iff.mp h]; exact ⟨rfl, rfl⟩
 | d :: ds, xs, h, f => by
  obtain ⟨x, r, rfl, h2, h3⟩ := iss_cons_iff.mp h
  rw [List.all_cons, Bool.and_eq_true] at f
  obtain ⟨e1, e2⟩ := xbf h3 f.2
  cases d with
  | s y =>
   cases is_s_iff.mp h2
   refine ⟨by rw [List.map_cons, ← e1]; rfl, ?_⟩
   rw [List.all_cons, e2, Bool.and_true]
   exact f.1
  | _ => cases f.1
def yo (x : D) (ds : List D) : Option Bool := if (zbl x && ds.all zbl) = true then some (inV (sV x) (ds.map sV)) else none
def inB : D → D → Option Bool
 | .s (.str a), .s (.str z) => if a.length = 1 then some (decide (a.cps.getD 0 0 ∈ z.cps.toList)) else some (!(Builtin.Str.occurrences z a 0 z.length 1).isEmpty)
 | x, y => match items y with
  | some ds => yo x ds
  | none => none
def inD (x y : D) : Option Rv := match inB x y with
 | some b => some (rvB b)
 | none => none
def jbk (x y : D) : Option Rv := match inB x y with
 | some b => some (rvB (!b))
 | none => none
theorem vag {d : D} {v : V} {ds : List D} (e : Ex C H) (h : items d = some ds) (i : Pk K C H d v) : ∃ p xs, v = .ref p ∧ (SqL K H p xs ∨ SqT K H p xs) ∧ Iss K C ds xs := by
 cases d with
 | tup es =>
  cases h
  obtain ⟨a, xs, rfl, h1, h2⟩ := v7 e i
  exact ⟨a, xs, rfl, .inr h1, h2⟩
 | lst es =>
  cases h
  obtain ⟨a, xs, rfl, h1, h2⟩ := i
  exact ⟨a, xs, rfl, .inl (SqL.of h1), h2⟩
 | ro es =>
  cases h
  obtain ⟨a, xs, rfl, h1, h2⟩ := pk_ro e i
  exact ⟨a, xs, rfl, .inl h1, h2⟩
 | s x => cases h
 | obj c fs => cases h
 | lam f c zs ks => cases h
 | dic kvs => cases h
 | exc c b fs => cases h
 | lab a d => cases h
def rInX (K : PySem.W.Frag) : R2 := fun x y H Q => (∃ i j, x = .str i ∧ y = .str j ∧ Q (.bl (!(Builtin.Str.occurrences j i 0 j.length 1).isEmpty)) H) ∨ (∃ (c : Nat) (z : Str), x = .str ⟨#[c]⟩ ∧ y = .str z ∧ Q (.bl (decide (c ∈ z.cps.toList))) H) ∨ rIn K false x y H Q
def rNotInX (K : PySem.W.Frag) : R2 := fun x y H Q => (∃ i j, x = .str i ∧ y = .str j ∧ Q (.bl (!(!(Builtin.Str.occurrences j i 0 j.length 1).isEmpty))) H) ∨ (∃ (c : Nat) (z : Str), x = .str ⟨#[c]⟩ ∧ y = .str z ∧ Q (.bl (!decide (c ∈ z.cps.toList))) H) ∨ rIn K true x y H Q
theorem op_inX {X : Cx} : OpR X (compareOp .In) (rInX X.K) := op_in_str.or (op_in_sign.or op_in_seq)
theorem op_notInX {X : Cx} : OpR X (compareOp .NotIn) (rNotInX X.K) := L2.op_notIn_str.or (op_notIn_sign.or op_notIn_seq)
theorem one_sign {a : Str} (h : a.length = 1) : a = ⟨#[a.cps.getD 0 0]⟩ := by
 obtain ⟨⟨l⟩⟩ := a
 match l, h with
 | [c], _ => rfl
theorem in_cases {dx dy : D} {b : Bool} (h : inB dx dy = some b) :
  (∃ a z, dx = .s (.str a) ∧ dy = .s (.str z) ∧ ((∃ c, a = ⟨#[c]⟩ ∧ b = decide (c ∈ z.cps.toList)) ∨ b = !(Builtin.Str.occurrences z a 0 z.length 1).isEmpty)) ∨
  (∃ ds, items dy = some ds ∧ yo dx ds = some b) := by
 unfold inB at h
 split at h
 ·rename_i a z
  refine .inl ⟨a, z, rfl, rfl, ?_⟩
  by_cases h1 : a.length = 1
  ·rw [if_pos h1] at h
   exact .inl ⟨_, one_sign h1, (Option.some.inj h).symm⟩
  ·rw [if_neg h1] at h
   exact .inr (Option.some.inj h).symm
 ·rename_i x y hne
  cases q : items dy with
  | none => rw [q] at h; cases h
  | some ds => rw [q] at h; exact .inr ⟨ds, rfl, h⟩
theorem kaz {dx : D} {ds : List D} {b : Bool} (h : yo dx ds = some b) : ∃ x, dx = .s x ∧ flatV x = true ∧ ds.all zbl = true ∧ b = inV x (ds.map sV) := by
 unfold yo at h
 obtain ⟨h1, h2⟩ := vc h
 obtain ⟨h3, h4⟩ := Bool.and_eq_true_iff.mp h1
 cases dx with
 | s x => exact ⟨x, rfl, h3, h4, h2.symm⟩
 | _ => cases h3
theorem ok_in : R2Ok K (rInX K) inD := by
 intro C H e dx dy x y rv Q h hx hy g
 unfold inD at h
 cases q : inB dx dy with
 | none => rw [q] at h; cases h
 | some b =>
  rw [q] at h; cases h
  rcases in_cases q with ⟨a, z, rfl, rfl, ⟨c, rfl, rfl⟩ | rfl⟩ | ⟨ds, h1, h2⟩
  ·cases pk_s.mp hx; cases pk_s.mp hy
   exact .inr (.inl ⟨c, z, rfl, rfl, g.d e⟩)
  ·cases pk_s.mp hx; cases pk_s.mp hy
   exact .inl ⟨a, z, rfl, rfl, g.d e⟩
  ·obtain ⟨w, rfl, h3, h4, rfl⟩ := kaz h2
   cases pk_s.mp hx
   obtain ⟨p, xs, rfl, h5, h6⟩ := vag e h1 hy
   obtain ⟨rfl, h7⟩ := xbf h6 h4
   exact .inr (.inr ⟨p, _, rfl, h5, h3, h7, g.d e⟩)
theorem ok_notIn : R2Ok K (rNotInX K) jbk := by
 intro C H e dx dy x y rv Q h hx hy g
 unfold jbk at h
 cases q : inB dx dy with
 | none => rw [q] at h; cases h
 | some b =>
  rw [q] at h; cases h
  rcases in_cases q with ⟨a, z, rfl, rfl, ⟨c, rfl, rfl⟩ | rfl⟩ | ⟨ds, h1, h2⟩
  ·cases pk_s.mp hx; cases pk_s.mp hy
   exact .inr (.inl ⟨c, z, rfl, rfl, g.d e⟩)
  ·cases pk_s.mp hx; cases pk_s.mp hy
   exact .inl ⟨a, z, rfl, rfl, g.d e⟩
  ·obtain ⟨w, rfl, h3, h4, rfl⟩ := kaz h2
   cases pk_s.mp hx
   obtain ⟨p, xs, rfl, h5, h6⟩ := vag e h1 hy
   obtain ⟨rfl, h7⟩ := xbf h6 h4
   exact .inr (.inr ⟨p, _, rfl, h5, h3, h7, g.d e⟩)
def ixD : D → D → Option Rv
 | .s (.str z), .s (.int i) => if z.length ≤ sizeLine then (match atI z.cps.toList i with
  | some c => some (rvS ⟨#[c]⟩)
  | none => none) else none
 | x, .s (.int i) => match items x with
  | some ds => match atI ds i with
   | some d => some (.dat d)
   | none => none
  | none => none
 | _, _ => none
theorem Iss.atI {ds : List D} {xs : List V} {i : Int} {d : D} (h : Iss K C ds xs) (e : L2.atI ds i = some d) : ∃ x, L2.atI xs i = some x ∧ Is K C d x := by
 unfold L2.atI at e ⊢
 rw [h.length]
 cases q : ixN ds.length i with
 | none => rw [q] at e; cases e
 | some j => rw [q] at e; exact h.get e
theorem ok_ix : R2Ok K (rIx K) ixD := by
 intro C H e dx dy x y rv Q h hx hy g
 unfold ixD at h
 split at h
 ·cases pk_s.mp hx; cases pk_s.mp hy
  rename_i z i
  by_cases hz : z.length ≤ sizeLine
  ·rw [if_pos hz] at h
   cases q : L2.atI z.cps.toList i with
   | none => rw [q] at h; cases h
   | some c => rw [q] at h; cases h; exact .inr (.inr ⟨z, i, c, rfl, rfl, hz, q, g.d e⟩)
  ·rw [if_neg hz] at h; cases h
 ·cases pk_s.mp hy
  cases q : items dx with
  | none => rw [q] at h; cases h
  | some ds =>
   rw [q] at h
   dsimp only at h
   rename_i i _
   cases q2 : L2.atI ds i with
   | none => rw [q2] at h; cases h
   | some d =>
    rw [q2] at h
    cases h
    obtain ⟨p, xs, rfl, h5, h6⟩ := vag e q hx
    obtain ⟨w, h7, h8⟩ := h6.atI q2
    rcases h5 with h5 | h5
    ·exact .inl ⟨p, xs, i, w, rfl, rfl, h5, h7, g.same e h8⟩
    ·exact .inr (.inl ⟨p, xs, i, w, rfl, rfl, h5, h7, g.same e h8⟩)
 ·cases h
def cutG {α : Type} (xs : List α) (lo hi : Option Int) : List α := (xs.drop (HT.sIx xs.length 0 lo)).take (HT.sIx xs.length xs.length hi - HT.sIx xs.length 0 lo)
theorem Iss.cut {ds : List D} {xs : List V} (h : Iss K C ds xs) (lo hi : Option Int) : Iss K C (cutG ds lo hi) (cutV xs lo hi) := by
 unfold cutG cutV
 rw [h.length]
 exact (h.drop _).take _
def slD : D → Option Int → Option Int → Option Rv
 | .s (.str z), lo, hi => if z.length ≤ sizeLine then some (rvS (cutS z lo hi)) else none
 | .tup ds, lo, hi => some (.dat (.tup (cutG ds lo hi)))
 | .lst ds, lo, hi => some (.new (.lst (cutG ds lo hi)))
 | .ro ds, lo, hi => some (.new (.lst (cutG ds lo hi)))
 | _, _, _ => none
def rSlX (K : PySem.W.Frag) : V → Option Int → Option Int → Hp → VK → Prop := fun x lo hi H Q => rSlS x lo hi H Q ∨ rSlP K x lo hi H Q ∨ rSlL K x lo hi H Q
theorem sl_X {X : Cx} : SlR X (rSlX X.K) := sl_str.or (sl_tupP.or sl_list)
theorem ok_sl {C H : Hp} (e : Ex C H) {dx : D} {x : V} {lo hi : Option Int} {rv : Rv} {Q : VK} (h : slD dx lo hi = some rv) (hx : Pk K C H dx x) (g : Giv K C H rv Q) : rSlX K x lo hi H Q := by
 cases dx with
 | s y =>
  cases pk_s.mp hx
  cases x with
  | str z =>
   obtain ⟨h1, rfl⟩ := vc (show (if z.length ≤ sizeLine then some (rvS (cutS z lo hi)) else none) = some rv from h)
   exact .inl ⟨_, rfl, h1, g.d e⟩
  | _ => cases h
 | tup ds =>
  cases h
  have hx0 := hx
  obtain ⟨a, xs, rfl, h1, h2⟩ := v7 e hx
  refine .inr (.inl ⟨a, xs, rfl, h1, fun ⟨z1, z2⟩ => ?_, fun _ p o hp hd => g.tup e (h2.cut lo hi) hp hd⟩)
  have q : cutG ds lo hi = ds := by
   unfold cutG
   rw [← h2.length, z1, z2, List.drop_zero, Nat.sub_zero, h2.length, List.take_length]
  rw [q] at g
  exact g.same e hx0
 | lst ds =>
  cases h
  obtain ⟨a, xs, rfl, h1, h2⟩ := hx
  exact .inr (.inr ⟨a, xs, rfl, SqL.of h1, fun p hp => g.lst e (h2.cut lo hi) hp⟩)
 | ro ds =>
  cases h
  obtain ⟨a, xs, rfl, h1, h2⟩ := pk_ro e hx
  exact .inr (.inr ⟨a, xs, rfl, h1, fun p hp => g.lst e (h2.cut lo hi) hp⟩)
 | obj c fs => cases h
 | lam f c zs ks => cases h
 | dic kvs => cases h
 | exc c b fs => cases h
 | lab a d => cases h
end
end PL
namespace PL
open PySem L2
def asB (r : Rv) : P Bool := fun ρ => match peek ρ r with
 | some (.s (.bl b)) => some (.ok b ρ)
 | _ => none
def kf (f : P Rv) : P Bool := f.bind asB
def fAnd (g h : P Bool) : P Bool := g.bind fun b => if b = true then h else P.ret false
def fOr (g h : P Bool) : P Bool := g.bind fun b => if b = true then P.ret true else h
def fNot (g : P Bool) : P Bool := g.bind fun b => P.ret (!b)
def kab (f g : P Rv) : P Rv := (kf f).bind fun b => if b = true then g else P.ret (rvB false)
def fOrV (f g : P Rv) : P Rv := (kf f).bind fun b => if b = true then P.ret (rvB true) else g
def fNotV (f : P Rv) : P Rv := (kf f).bind fun b => P.ret (rvB (!b))
def fIf (g : P Bool) (fa fb : P Rv) : P Rv := g.bind fun b => if b = true then fa else fb
def kbl (op op' : D → D → Option Rv) (fa fb fc : P Rv) : P Rv := fa.bind fun ra => fb.bind fun rb => (pk1 ra fun da => pk1 rb fun db => P.of (op da db)).bind fun z => (asB z).bind fun k =>
 if k = true then fc.bind fun rc => pk1 rb fun db => pk1 rc fun dc => P.of (op' db dc) else P.ret (rvB false)
section
variable {K : PySem.W.Frag} {W : WX} {σ : Sl} {C H : Hp} {ρ : En}
theorem At.asB {α' α : Type} {Rb : Rel α' α} {H0 : Hp} {v : V} {r : Rv} {k : Bool → P α} {t : Rd1 α'} (e : EnvOk K C H σ ρ) (h : VOk K H0 C H σ ρ v r)
  (hk : ∀ b, v = .bl b → At K W Rb σ C H ρ t (k b ρ)) : At K W Rb σ C H ρ t (((PL.asB r).bind k) ρ) := by
 show At K W Rb σ C H ρ t (jf (PL.asB r ρ) k)
 unfold PL.asB
 cases q : peek ρ r with
 | none => exact At.nil
 | some d =>
  cases d with
  | s x =>
   cases x with
   | bl b => exact hk b (pk_s.mp (wg e h q))
   | _ => exact At.nil
  | _ => exact At.nil
end
section
variable {K : PySem.W.Frag} {W : WX} {ta tb tc : TE} {tt tu : TT} {fa fb fc : P Rv} {g h : P Bool}
theorem kax (ha : Sd K W (VRel K) ta fa) : Sd K W BRel (tTest ta) (kf fa) := by
 intro σ C H ρ e
 show At K W (BRel H) σ C H ρ (fun H Q => ta σ H fun x H1 => ∃ k, x = .bl k ∧ Q k H1) (jf (fa ρ) asB)
 refine At.bind (tk := fun (x : V) (H1 : Hp) (Q : Bool → Hp → Prop) => ∃ k, x = .bl k ∧ Q k H1) (ha σ C H ρ e) fun ra ρ1 x C1 H1 p1 r1 => ?_
 unfold asB
 cases q : peek ρ1 ra with
 | none => exact At.nil
 | some d =>
  cases d with
  | s y =>
   cases y with
   | bl b => exact At.imp (At.ret (R := BRel H) (v := b) p1.env rfl) fun Q h => ⟨b, pk_s.mp (wg p1.env r1 q), h⟩
   | _ => exact At.nil
  | _ => exact At.nil
theorem sd_tb (ha : Sd K W (VRel K) ta fa) : Sd K W BRel (tB ta) (kf fa) := kax ha
theorem sd_or (ha : Sd K W BRel tt g) (hb : Sd K W BRel tu h) : Sd K W BRel (tOr tt tu) (fOr g h) := by
 intro σ C H ρ e
 show At K W (BRel H) σ C H ρ (fun H Q => tt σ H fun c H1 => if c = true then Q true H1 else tu σ H1 Q) (jf (g ρ) fun b => if b = true then P.ret true else h)
 refine At.bind (tk := fun (c : Bool) (H1 : Hp) (Q : Bool → Hp → Prop) => if c = true then Q true H1 else tu σ H1 Q) (ha σ C H ρ e) fun b ρ1 x C1 H1 p1 r1 => ?_
 have r1 : x = b := r1
 subst r1
 cases x with
 | false => exact hb σ C1 H1 ρ1 p1.env
 | true => exact At.ret (R := BRel H) (v := true) p1.env rfl
theorem sd_not (ha : Sd K W BRel tt g) : Sd K W BRel (tNot tt) (fNot g) := by
 intro σ C H ρ e
 show At K W (BRel H) σ C H ρ (fun H Q => tt σ H fun c H1 => Q (!c) H1) (jf (g ρ) fun b => P.ret (!b))
 refine At.bind (tk := fun (c : Bool) (H1 : Hp) (Q : Bool → Hp → Prop) => Q (!c) H1) (ha σ C H ρ e) fun b ρ1 x C1 H1 p1 r1 => ?_
 have r1 : x = b := r1
 subst r1
 exact At.ret (R := BRel H) (v := !x) p1.env rfl
theorem sd_andV (ha : Sd K W (VRel K) ta fa) (hb : Sd K W (VRel K) tb fb) : Sd K W (VRel K) (tAndV ta tb) (kab fa fb) := by
 intro σ C H ρ e
 have e1 := kax ha σ C H ρ e
 show At K W (VRel K H) σ C H ρ (fun H Q => ta σ H fun x H1 => ∃ c, x = .bl c ∧ if c = true then tb σ H1 Q else Q (.bl false) H1) (jf (kf fa ρ) fun b => if b = true then fb else P.ret (rvB false))
 refine At.bind (Rb := VRel K H) (tk := fun (c : Bool) (H1 : Hp) (Q : VK) => if c = true then tb σ H1 Q else Q (.bl false) H1) e1 fun b ρ1 x C1 H1 p1 r1 => ?_
 have r1 : x = b := r1
 subst r1
 cases x with
 | true => exact fun out Q ho hok hex => hb σ C1 H1 ρ1 p1.env out Q ho (fun a ρ' e2 v C' H' p2 r2 => hok a ρ' e2 v C' H' p2 (VOk.back r2 p1.step.dom)) hex
 | false => exact At.ret (R := VRel K H) (v := .bl false) p1.env (show Is K C1 (.s (.bl false)) _ from is_s)
theorem sd_orV (ha : Sd K W (VRel K) ta fa) (hb : Sd K W (VRel K) tb fb) : Sd K W (VRel K) (tOrV ta tb) (fOrV fa fb) := by
 intro σ C H ρ e
 have e1 := kax ha σ C H ρ e
 show At K W (VRel K H) σ C H ρ (fun H Q => ta σ H fun x H1 => ∃ c, x = .bl c ∧ if c = true then Q (.bl true) H1 else tb σ H1 Q) (jf (kf fa ρ) fun b => if b = true then P.ret (rvB true) else fb)
 refine At.bind (Rb := VRel K H) (tk := fun (c : Bool) (H1 : Hp) (Q : VK) => if c = true then Q (.bl true) H1 else tb σ H1 Q) e1 fun b ρ1 x C1 H1 p1 r1 => ?_
 have r1 : x = b := r1
 subst r1
 cases x with
 | false => exact fun out Q ho hok hex => hb σ C1 H1 ρ1 p1.env out Q ho (fun a ρ' e2 v C' H' p2 r2 => hok a ρ' e2 v C' H' p2 (VOk.back r2 p1.step.dom)) hex
 | true => exact At.ret (R := VRel K H) (v := .bl true) p1.env (show Is K C1 (.s (.bl true)) _ from is_s)
theorem sd_notV (ha : Sd K W (VRel K) ta fa) : Sd K W (VRel K) (tNotV ta) (fNotV fa) := by
 intro σ C H ρ e
 have e1 := kax ha σ C H ρ e
 show At K W (VRel K H) σ C H ρ (fun H Q => ta σ H fun x H1 => ∃ c, x = .bl c ∧ Q (.bl (!c)) H1) (jf (kf fa ρ) fun b => P.ret (rvB (!b)))
 refine At.bind (Rb := VRel K H) (tk := fun (c : Bool) (H1 : Hp) (Q : VK) => Q (.bl (!c)) H1) e1 fun b ρ1 x C1 H1 p1 r1 => ?_
 have r1 : x = b := r1
 subst r1
 exact At.ret (R := VRel K H) (v := .bl (!x)) p1.env (show Is K C1 (.s (.bl (!x))) _ from is_s)
theorem sd_if (hg : Sd K W BRel tt g) (ha : Sd K W (VRel K) ta fa) (hb : Sd K W (VRel K) tb fb) : Sd K W (VRel K) (tIf tt ta tb) (fIf g fa fb) := by
 intro σ C H ρ e
 show At K W (VRel K H) σ C H ρ (fun H Q => tt σ H fun c H1 => if c = true then ta σ H1 Q else tb σ H1 Q) (jf (g ρ) fun b => if b = true then fa else fb)
 refine At.bind (Rb := VRel K H) (tk := fun (c : Bool) (H1 : Hp) (Q : VK) => if c = true then ta σ H1 Q else tb σ H1 Q) (hg σ C H ρ e) fun b ρ1 x C1 H1 p1 r1 => ?_
 have r1 : x = b := r1
 subst r1
 cases x with
 | true => exact fun out Q ho hok hex => ha σ C1 H1 ρ1 p1.env out Q ho (fun a ρ' e2 v C' H' p2 r2 => hok a ρ' e2 v C' H' p2 (VOk.back r2 p1.step.dom)) hex
 | false => exact fun out Q ho hok hex => hb σ C1 H1 ρ1 p1.env out Q ho (fun a ρ' e2 v C' H' p2 r2 => hok a ρ' e2 v C' H' p2 (VOk.back r2 p1.step.dom)) hex
theorem sd_chain {r r' : R2} {op op' : D → D → Option Rv} (hr : R2Ok K r op) (hr' : R2Ok K r' op') (ha : Sd K W (VRel K) ta fa) (hb : Sd K W (VRel K) tb fb) (hc : Sd K W (VRel K) tc fc) :
  Sd K W (VRel K) (tChain r r' ta tb tc) (kbl op op' fa fb fc) := by
 intro σ C H ρ e
 show At K W (VRel K H) σ C H ρ (fun H Q => ta σ H fun x H1 => tb σ H1 fun y H2 => r x y H2 fun z H3 => ∃ k, z = .bl k ∧ (if k = true then tc σ H3 fun w' H4 => r' y w' H4 Q else Q (.bl false) H3))
  (jf (fa ρ) fun ra => fb.bind fun rb => (pk1 ra fun da => pk1 rb fun db => P.of (op da db)).bind fun z => (asB z).bind fun k =>
   if k = true then fc.bind fun rc => pk1 rb fun db => pk1 rc fun dc => P.of (op' db dc) else P.ret (rvB false))
 refine At.bind (tk := fun (x : V) (H1 : Hp) (Q : VK) => tb σ H1 fun y H2 => r x y H2 fun z H3 => ∃ k, z = .bl k ∧ (if k = true then tc σ H3 fun w' H4 => r' y w' H4 Q else Q (.bl false) H3)) (ha σ C H ρ e) fun ra ρ1 x C1 H1 p1 r1 => ?_
 refine At.bind (tk := fun (y : V) (H2 : Hp) (Q : VK) => r x y H2 fun z H3 => ∃ k, z = .bl k ∧ (if k = true then tc σ H3 fun w' H4 => r' y w' H4 Q else Q (.bl false) H3)) (hb σ C1 H1 ρ1 p1.env) fun rb ρ2 y C2 H2 p2 r2 => ?_
 have r1' := VOk.mono r1 p1.env p2
 have first : At K W (VRel K H2) σ C2 H2 ρ2 (fun H Q => r x y H Q) ((pk1 ra fun da => pk1 rb fun db => P.of (op da db)) ρ2) := by
  refine At.pk1 fun da q1 => At.pk1 fun db q2 => At.pof fun rv q3 => ?_
  exact At.giv p2.env (fun b h => h) fun Q g => hr C2 H2 p2.env.ext da db x y rv Q q3 (wg p2.env r1' q1) (wg p2.env r2 q2) g
 refine At.bind (tk := fun (z : V) (H3 : Hp) (Q : VK) => ∃ k, z = .bl k ∧ (if k = true then tc σ H3 fun w' H4 => r' y w' H4 Q else Q (.bl false) H3)) first fun z ρ3 zv C3 H3 p3 r3 => ?_
 refine At.asB p3.env r3 fun b eb => ?_
 subst eb
 cases b with
 | false => exact At.imp (At.ret (R := VRel K H) (v := .bl false) p3.env (show Is K C3 (.s (.bl false)) _ from is_s)) fun Q h => ⟨false, rfl, h⟩
 | true =>
  refine At.imp (t := fun H3 Q => tc σ H3 fun w' H4 => r' y w' H4 Q) ?_ fun Q h => ⟨true, rfl, h⟩
  refine At.bind (tk := fun (w' : V) (H4 : Hp) (Q : VK) => r' y w' H4 Q) (hc σ C3 H3 ρ3 p3.env) fun rc ρ4 w' C4 H4 p4 r4 => ?_
  have r2' := VOk.mono (VOk.mono r2 p2.env p3) p3.env p4
  refine At.pk1 fun db q1 => At.pk1 fun dc q2 => At.pof fun rv q3 => ?_
  exact At.giv p4.env (fun b h => p1.step.dom b (p2.step.dom b (p3.step.dom b (p4.step.dom b h)))) fun Q g => hr' C4 H4 p4.env.ext db dc y w' rv Q q3 (wg p4.env r2' q1) (wg p4.env r4 q2) g
end
section
variable {K : PySem.W.Frag} {C H : Hp}
theorem pks1 {d : D} {ds : List D} {vs : List V} (h : Pks K C H (d :: ds) vs) : ∃ v r, vs = v :: r ∧ Pk K C H d v ∧ Pks K C H ds r := by
 cases h with
 | cons h t => exact ⟨_, _, rfl, h, t⟩
theorem pks0 {vs : List V} (h : Pks K C H [] vs) : vs = [] := by cases h; rfl
def lenD : List D → Option Rv
 | [.s (.str y)] => if y.length ≤ sizeLine then some (rvI y.length) else none
 | [d] => match items d with
  | some ds => some (rvI ds.length)
  | none => none
 | _ => none
def rLenX (K : PySem.W.Frag) : List V → Hp → VK → Prop := fun xs H Q => ∃ x n, xs = [x] ∧ LenV K x H n ∧ Q (.int n) H
theorem ok_len : RCOk K (rLenX K) lenD := by
 intro C H e ds vs rv Q h hs g
 unfold lenD at h
 split at h
 ·obtain ⟨v, r, rfl, h1, h2⟩ := pks1 hs
  cases pks0 h2
  cases pk_s.mp h1
  obtain ⟨h3, rfl⟩ := vc h
  exact ⟨_, _, rfl, ⟨h3, rfl⟩, g.d e⟩
 ·obtain ⟨v, r, rfl, h1, h2⟩ := pks1 hs
  cases pks0 h2
  rename_i d _
  cases q : items d with
  | none => rw [q] at h; cases h
  | some es =>
   rw [q] at h; cases h
   obtain ⟨p, xs, rfl, h3, h4⟩ := vag e q h1
   refine ⟨_, es.length, rfl, ?_, g.d e⟩
   rcases h3 with h3 | h3
   ·exact .inl ⟨xs, h3, h4.length.symm⟩
   ·exact .inr ⟨xs, h3, h4.length.symm⟩
 ·cases h
def maxD : List D → Option Rv
 | [.s (.int i), .s (.int j)] => some (rvI (if j > i then j else i))
 | _ => none
def minD : List D → Option Rv
 | [.s (.int i), .s (.int j)] => some (rvI (if j < i then j else i))
 | _ => none
theorem ok_max : RCOk K (fun xs H Q => ∃ i j, xs = [.int i, .int j] ∧ Q (.int (if j > i then j else i)) H) maxD := by
 intro C H e ds vs rv Q h hs g
 unfold maxD at h
 split at h
 ·obtain ⟨v, r, rfl, h1, h2⟩ := pks1 hs
  obtain ⟨v2, r2, rfl, h3, h4⟩ := pks1 h2
  cases pks0 h4
  cases pk_s.mp h1; cases pk_s.mp h3; cases h
  exact ⟨_, _, rfl, g.d e⟩
 ·cases h
theorem ok_min : RCOk K (fun xs H Q => ∃ i j, xs = [.int i, .int j] ∧ Q (.int (if j < i then j else i)) H) minD := by
 intro C H e ds vs rv Q h hs g
 unfold minD at h
 split at h
 ·obtain ⟨v, r, rfl, h1, h2⟩ := pks1 hs
  obtain ⟨v2, r2, rfl, h3, h4⟩ := pks1 h2
  cases pks0 h4
  cases pk_s.mp h1; cases pk_s.mp h3; cases h
  exact ⟨_, _, rfl, g.d e⟩
 ·cases h
def vbp : List D → Option Rv
 | [d] => match items d with
  | some ds => some (.new (.lst ds))
  | none => none
 | _ => none
theorem ok_list : RCOk K (fun xs H Q => ∃ p ys, xs = [.ref p] ∧ (SqL K H p ys ∨ SqT K H p ys) ∧ ∀ l, H l = none → Q (.ref l) (upd H l (.lst ys))) vbp := by
 intro C H e ds vs rv Q h hs g
 unfold vbp at h
 split at h
 ·obtain ⟨v, r, rfl, h1, h2⟩ := pks1 hs
  cases pks0 h2
  rename_i d
  cases q : items d with
  | none => rw [q] at h; cases h
  | some es =>
   rw [q] at h; cases h
   obtain ⟨p, xs, rfl, h3, h4⟩ := vag e q h1
   exact ⟨p, xs, rfl, h3, fun l hl => g.lst e h4 hl⟩
 ·cases h
def jae : List D → Option Rv
 | [d] => match items d with
  | some ds => some (.dat (.tup ds))
  | none => none
 | _ => none
theorem ok_tuple : RCOk K (rTupP K) jae := by
 intro C H e ds vs rv Q h hs g
 unfold jae at h
 split at h
 ·obtain ⟨v, r, rfl, h1, h2⟩ := pks1 hs
  cases pks0 h2
  rename_i d
  cases d with
  | tup es =>
   cases h
   have h10 := h1
   obtain ⟨p, xs, rfl, h3, h4⟩ := v7 e h1
   exact ⟨p, xs, rfl, .inr ⟨h3, g.same e h10⟩⟩
  | lst es =>
   cases h
   obtain ⟨p, xs, rfl, h3, h4⟩ := h1
   exact ⟨p, xs, rfl, .inl ⟨SqL.of h3, fun l o hl hd => g.tup e h4 hl hd⟩⟩
  | ro es =>
   cases h
   obtain ⟨p, xs, rfl, h3, h4⟩ := pk_ro e h1
   exact ⟨p, xs, rfl, .inl ⟨h3, fun l o hl hd => g.tup e h4 hl hd⟩⟩
  | s x => cases h
  | obj c fs => cases h
  | lam f c zs ks => cases h
  | dic kvs => cases h
  | exc c b fs => cases h
  | lab a d => cases h
 ·cases h
def strD : List D → Option Rv
 | [.s (.int i)] => if i.natAbs.log2 < 1920 then some (rvS (toString i)) else none
 | _ => none
def ka3 : List D → Option (List Bool)
 | [] => some []
 | .s (.bl b) :: ds => match ka3 ds with
  | some bs => some (b :: bs)
  | none => none
 | _ => none
theorem vbm : ∀ {ds : List D} {xs : List V} {bs : List Bool}, ka3 ds = some bs → Iss K C ds xs → xs = bs.map V.bl
 | [], xs, bs, h, i => by rw [iss_nil_iff.mp i]; cases h; rfl
 | d :: ds, xs, bs, h, i => by
  obtain ⟨x, r, rfl, h2, h3⟩ := iss_cons_iff.mp i
  cases d with
  | s y =>
   cases y with
   | bl b =>
    cases is_s_iff.mp h2
    simp only [ka3] at h
    cases q : ka3 ds with
    | none => rw [q] at h; cases h
    | some cs =>
     rw [q] at h; cases h
     rw [vbm q h3]
     rfl
   | _ => cases h
  | _ => cases h
def allD : List D → Option Rv
 | [.lst ds] => match ka3 ds with
  | some bs => some (rvB (bs.all id))
  | none => none
 | _ => none
def anyD : List D → Option Rv
 | [.lst ds] => match ka3 ds with
  | some bs => some (rvB (bs.any id))
  | none => none
 | _ => none
theorem ok_all : RCOk K (rAll K) allD := by
 intro C H e ds vs rv Q h hs g
 unfold allD at h
 split at h
 ·obtain ⟨v, r, rfl, h1, h2⟩ := pks1 hs
  cases pks0 h2
  rename_i es
  cases q : ka3 es with
  | none => rw [q] at h; cases h
  | some bs =>
   rw [q] at h; cases h
   obtain ⟨a, xs, rfl, h3, h4⟩ := h1
   cases vbm q h4
   exact ⟨a, bs, rfl, SqL.of h3, g.d e⟩
 ·cases h
structure IsiCls (K : PySem.W.Frag) (C : Addr) : Prop where
 cl : Cls K C
 ha : PySem.W.findIn K (.ref C) "__class__" = some (some (.builtin "object.__class__"))
 hn : PySem.W.specialIn K (.builtin "object.__class__") "__get__" = some (some (.builtin "getset_descriptor.__get__"))
 htk : PySem.W.takesIn K (.builtin "object.__class__") = some true
 hm : PySem.W.mroIn K C (.type "object") = some true
inductive TyY (K : PySem.W.Frag) (H : Hp) : V → Value → Prop where
 | x {v : V} {t : Value} (h : TyX K H v t) : TyY K H v t
 | e {a c : Addr} {d : Option Addr} (h : H a = some (.ext (ExO a c d))) (hd : d = none ∨ ∃ p gs, d = some p ∧ H p = some (.xd gs)) (k : ExcC K c) : TyY K H (.ref a) (.ref c)
theorem kitY {X : Cx} {pins : List (Addr × Obj)} {σ : St} {H : Hp} {s : Shared} {v : V} {u t : Value} (I : Inv X pins σ H s) (r : RelV v u) (y : TyY X.K H v t) : ∃ φ : Heap → Prop, PySem.W.KitX X.K u t φ ∧ φ s.heap ∧ u ≠ .builtin "__main__.__loader__#opaque" := by
 cases y with
 | x h => exact kit_of I r h
 | @e a c d h hd k =>
  cases (show u = Value.ref a from r)
  obtain ⟨⟨o, vs, h1, h2, h3⟩, _⟩ := I.hok _ _ h
  obtain ⟨cd, hc, _⟩ := PySem.W.any_some k.hd
  have isC : (PySem.W.clsIn X.K c).isSome = true := by rw [hc]; rfl
  have nc : PySem.W.notCls o := by unfold PySem.W.notCls; rw [h3]
  rcases hd with rfl | ⟨p, gs, rfl, h4⟩
  ·exact ⟨_, PySem.W.kitx_exc (od := none) isC k.hg k.hk k.hs k.ha k.hn k.ht k.hm, ⟨h1, h2.1, nc, by rw [h2.2]; trivial⟩, fun z => nomatch z⟩
  ·obtain ⟨mA, hns, _⟩ := I.hok _ _ h4
   obtain ⟨od, ho, _⟩ := lookIn_ns hns
   exact ⟨_, PySem.W.kitx_exc (od := some od) isC k.hg k.hk k.hs k.ha k.hn k.ht k.hm, ⟨h1, h2.1, nc, by rw [h2.2]; exact ho⟩, fun z => nomatch z⟩
def rIsY (K : PySem.W.Frag) : List V → Hp → VK → Prop := fun xs H Q => ∃ (t : Value) (b : Bool), (∃ (x c : V) (u : Value), xs = [x, c] ∧ ClsV c u ∧ TyY K H x t ∧ PySem.W.kitOne K t u = some b ∧ Q (.bl b) H) ∨
 ∃ (x : V) (tp : Addr) (cs : List V) (us : List Value), xs = [x, .ref tp] ∧ SqT K H tp cs ∧ Paired ClsV cs us ∧ TyY K H x t ∧ PySem.W.kitAny K t us = some b ∧ Q (.bl b) H
theorem call_isY {X : Cx} : CallR X (.builtin "isinstance") (rIsY X.K) := by
 intro pins s σ H xs us Q I r h
 obtain ⟨t, b, ⟨x, c, u, rfl, k, y, e, q⟩ | ⟨x, tp, cs, ws, rfl, hT, k, y, e, q⟩⟩ := h
 ·obtain ⟨a1, a2, rfl, r1, r2⟩ := vals2 r
  cases k.eq r2
  obtain ⟨φ, Z, p, n⟩ := kitY I r1 y
  exact PySem.W.kia_one Z I.kIn p e n fun tk =>
   ⟨.bl b, H, I.tok tk, rfl, q⟩
 ·obtain ⟨a1, a2, rfl, r1, r2⟩ := vals2 r
  cases (show a2 = Value.ref tp from r2)
  obtain ⟨φ, Z, p, n⟩ := kitY I r1 y
  obtain ⟨its, rv, pl, hz⟩ := I.tuple hT
  cases ClsV.all k rv
  obtain ⟨⟨oc, od, oda, osl⟩, ho, hc, n', hs⟩ := pl
  dsimp only at hc hs
  subst hc hs
  exact PySem.W.kia_tup Z I.kIn p ho e n fun tk =>
   ⟨.bl b, H, I.tok tk, rfl, q⟩
def tyD : D → Option Value
 | .s .non => some (.type "NoneType")
 | .s (.bl _) => some (.type "bool")
 | .s (.int _) => some (.type "int")
 | .s (.str _) => some (.type "str")
 | .s _ => none
 | .tup _ => some (.type "tuple")
 | .lst _ => some (.type "list")
 | .ro _ => some (.type "list")
 | .obj c _ => some (.ref c)
 | .lam _ _ _ _ => none
 | .dic _ => some (.type "dict")
 | .exc c _ _ => some (.ref c)
 | .lab _ _ => none
def clsD : D → Option Value
 | .s (.ty n) => some (.type n)
 | .s (.ref c) => some (.ref c)
 | _ => none
def ja3 (cs : List Addr) : D → Bool
 | .obj a _ => cs.contains a
 | _ => true
def isiB (K : PySem.W.Frag) (cs : List Addr) (x c : D) : Option Bool := match tyD x with
 | none => none
 | some t => match clsD c with
  | none => none
  | some u => if ja3 cs x = true then PySem.W.kitOne K t u else none
def clsL : List D → Option (List Value)
 | [] => some []
 | d :: ds => match clsD d, clsL ds with
  | some u, some us => some (u :: us)
  | _, _ => none
def isiT (K : PySem.W.Frag) (cs : List Addr) (x : D) (ds : List D) : Option Bool := match tyD x, clsL ds with
 | some t, some us => if ja3 cs x = true then PySem.W.kitAny K t us else none
 | _, _ => none
def isiD (K : PySem.W.Frag) (cs : List Addr) : List D → Option Rv
 | [x, .tup ds] => match isiT K cs x ds with
  | some b => some (rvB b)
  | none => none
 | [x, c] => match isiB K cs x c with
  | some b => some (rvB b)
  | none => none
 | _ => none
theorem tyD_ok {cs : List Addr} (hcs : ∀ c, cs.contains c = true → IsiCls K c) (e : Ex C H) {d : D} {v : V} {t : Value} (h : tyD d = some t) (i : Pk K C H d v) (hc : ja3 cs d = true) : TyY K H v t := by
 cases d with
 | s x =>
  cases pk_s.mp i
  cases v with
  | non => cases h; exact .x <| .base .non
  | bl b => cases h; exact .x <| .base (.bl b)
  | int b => cases h; exact .x <| .base (.int b)
  | str b => cases h; exact .x <| .base (.str b)
  | _ => cases h
 | tup ds =>
  cases h
  obtain ⟨a, xs, rfl, h1, h2⟩ := v7 e i
  rcases h1 with (h1 | ⟨o, h1⟩) | ⟨o, its, n, h1, h3, _⟩
  ·exact .x <| .base (.tup h1)
  ·exact .x (.fTuple h1)
  ·exact .x (.kTuple h1 h3)
 | lst ds =>
  cases h
  obtain ⟨a, xs, rfl, h1, h2⟩ := i
  exact .x <| .base (.lst h1)
 | ro ds =>
  cases h
  obtain ⟨a, xs, rfl, h1, h2⟩ := pk_ro e i
  rcases h1 with (h1 | ⟨o, h1⟩) | ⟨o, its, n, h1, h3, _⟩
  ·exact .x <| .base (.lst h1)
  ·exact .x <| .base (.frz h1)
  ·exact .x (.kList h1 h3)
 | obj c fs =>
  cases h
  obtain ⟨a, dx, gs, rfl, h1, h2⟩ := pk_obj e i
  have k := hcs c hc
  exact .x <| .base (.ins h1 k.cl k.ha k.hn k.htk k.hm)
 | lam f c zs ks => cases h
 | dic kvs =>
  cases h
  obtain ⟨a, o, xs, rfl, h1, _⟩ := is_dic_iff.mp i
  exact .x (.fDict (e.1 _ _ h1 nt_frz))
 | exc c b fs =>
  cases h
  obtain ⟨k, a, d, gs, rfl, h1, h2, _⟩ := is_exc_iff.mp i
  refine .e (e.1 _ _ h1 (fun ps z => by cases z)) ?_ k
  rcases h2 with ⟨_, h2⟩ | ⟨p, _, h2, h3⟩
  ·exact .inl h2
  ·exact .inr ⟨p, gs, h2, e.1 _ _ h3 nt_xd⟩
 | lab a d => cases h
theorem clsD_ok {c : D} {v : V} {u : Value} (h : clsD c = some u) (i : Is K C c v) : ClsV v u := by
 cases c with
 | s y =>
  cases is_s_iff.mp i
  cases v with
  | ty n => cases h; exact .ty n
  | ref a => cases h; exact .own a
  | _ => cases h
 | _ => cases h
theorem clsL_ok : ∀ {ds : List D} {vs : List V} {us : List Value}, clsL ds = some us → Iss K C ds vs → Paired ClsV vs us
 | [], vs, us, h, i => by cases h; rw [iss_nil_iff.mp i]; exact .nil
 | d :: ds, vs, us, h, i => by
  obtain ⟨x, r, rfl, i1, i2⟩ := iss_cons_iff.mp i
  simp only [clsL] at h
  cases q1 : clsD d with
  | none => rw [q1] at h; cases h
  | some u =>
   cases q2 : clsL ds with
   | none => rw [q1, q2] at h; cases h
   | some ws =>
    rw [q1, q2] at h
    cases h
    exact .cons (clsD_ok q1 i1) (clsL_ok q2 i2)
theorem ok_isi {cs : List Addr} (hcs : ∀ c, cs.contains c = true → IsiCls K c) : RCOk K (rIsY K) (isiD K cs) := by
 intro C H e ds vs rv Q h hs g
 unfold isiD at h
 split at h
 ·rename_i x ds
  obtain ⟨v, r, rfl, h1, h2⟩ := pks1 hs
  obtain ⟨v2, r2, rfl, h3, h4⟩ := pks1 h2
  cases pks0 h4
  cases q : isiT K cs x ds with
  | none => rw [q] at h; cases h
  | some b =>
   rw [q] at h; cases h
   unfold isiT at q
   cases q1 : tyD x with
   | none => rw [q1] at q; cases q
   | some t =>
    cases q2 : clsL ds with
    | none => rw [q1, q2] at q; cases q
    | some us =>
     rw [q1, q2] at q
     dsimp only at q
     by_cases hc : ja3 cs x = true
     ·rw [if_pos hc] at q
      obtain ⟨tp, ys, rfl, k1, k2⟩ := v7 e h3
      exact ⟨t, b, .inr ⟨v, tp, ys, us, rfl, k1, clsL_ok q2 k2, tyD_ok hcs e q1 h1 hc, q, g.d e⟩⟩
     ·rw [if_neg hc] at q; cases q
 ·rename_i x c _
  obtain ⟨v, r, rfl, h1, h2⟩ := pks1 hs
  obtain ⟨v2, r2, rfl, h3, h4⟩ := pks1 h2
  cases pks0 h4
  cases q : isiB K cs x c with
  | none => rw [q] at h; cases h
  | some b =>
   rw [q] at h; cases h
   unfold isiB at q
   cases q1 : tyD x with
   | none => rw [q1] at q; cases q
   | some t =>
    cases q2 : clsD c with
    | none => rw [q1, q2] at q; cases q
    | some u =>
     rw [q1, q2] at q
     dsimp only at q
     by_cases hc : ja3 cs x = true
     ·rw [if_pos hc] at q
      refine ⟨t, b, .inl ⟨v, v2, u, rfl, ?_, tyD_ok hcs e q1 h1 hc, q, g.d e⟩⟩
      cases c with
      | s y =>
       cases pk_s.mp h3
       cases v2 with
       | ty n => cases q2; exact .ty n
       | ref a => cases q2; exact .own a
       | _ => cases q2
      | _ => cases q2
     ·rw [if_neg hc] at q; cases q
 ·cases h
def fM1 (op : Str → D → Option Rv) (fo fe : P Rv) : P Rv := fo.bind fun ro => pk1 ro fun d => match d with
 | .s (.str a) => fe.bind fun re => pk1 re fun x => P.of (op a x)
 | _ => P.fail
def RM1 (K : PySem.W.Frag) (r : V → List V → Hp → VK → Prop) (op : Str → D → Option Rv) : Prop :=
 ∀ C H, Ex C H → ∀ a d x rv Q, op a d = some rv → Pk K C H d x → Giv K C H rv Q → r (.str a) [x] H Q
theorem sd_m1 {W : WX} {r : V → List V → Hp → VK → Prop} {op : Str → D → Option Rv} {to te : TE} {fo fe : P Rv} (hr : RM1 K r op) (ho : Sd K W (VRel K) to fo) (he : Sd K W (VRel K) te fe) : Sd K W (VRel K) (tM1 r to te) (fM1 op fo fe) := by
 intro σ C H ρ e
 show At K W (VRel K H) σ C H ρ (fun H Q => to σ H fun x H1 => (∃ a, x = .str a) ∧ te σ H1 fun y H2 => r x [y] H2 Q) (jf (fo ρ) fun ro => pk1 ro fun d => match d with
  | .s (.str a) => fe.bind fun re => pk1 re fun x => P.of (op a x)
  | _ => P.fail)
 refine At.bind (tk := fun (x : V) (H1 : Hp) (Q : VK) => (∃ a, x = .str a) ∧ te σ H1 fun y H2 => r x [y] H2 Q) (ho σ C H ρ e) fun ro ρ1 x C1 H1 p1 r1 => ?_
 refine At.pk1 fun d q1 => ?_
 cases d with
 | s z =>
  cases z with
  | str a =>
   have ex : x = .str a := pk_s.mp (wg p1.env r1 q1)
   subst ex
   refine At.imp (t := fun H1 Q => te σ H1 fun y H2 => r (.str a) [y] H2 Q) ?_ fun Q h => ⟨⟨a, rfl⟩, h⟩
   refine At.bind (tk := fun (y : V) (H2 : Hp) (Q : VK) => r (.str a) [y] H2 Q) (he σ C1 H1 ρ1 p1.env) fun re ρ2 y C2 H2 p2 r2 => ?_
   refine At.pk1 fun dx q2 => At.pof fun rv q3 => ?_
   exact At.giv p2.env (fun b h => p1.step.dom b (p2.step.dom b h)) fun Q g => hr C2 H2 p2.env.ext a dx y rv Q q3 (wg p2.env r2 q2) g
  | _ => exact At.nil
 | _ => exact At.nil
def kbi (a : Str) : D → Option Rv
 | .s (.str b) => if a.length ≤ sizeLine then some (rvS (Txt.stripChars a b)) else none
 | _ => none
theorem ok_strip : RM1 K (fun x xs H Q => ∃ a b, x = .str a ∧ xs = [.str b] ∧ a.length ≤ sizeLine ∧ Q (.str (Txt.stripChars a b)) H) kbi := by
 intro C H e a d x rv Q h hx g
 unfold kbi at h
 split at h
 ·cases pk_s.mp hx
  obtain ⟨h1, rfl⟩ := vc h
  exact ⟨a, _, rfl, rfl, h1, g.d e⟩
 ·cases h
def startsD (a : Str) : D → Option Rv
 | .s (.str b) => some (rvB (Txt.startswith a b))
 | _ => none
def endsD (a : Str) : D → Option Rv
 | .s (.str b) => some (rvB (Txt.endswith a b))
 | _ => none
end
end PL
namespace PySem
open Sem (wp)
open AutoSeq1 (wpAny_loadPart')
theorem wpAny_pyNext_enum_endT {prog : Program} {w : World} {A : Around} {E : Value → Shared → Prop} {s : Shared} {e it l : Addr} {i : Nat} {items : Array Value} {old : Value} {Q : Option Value → Shared → Prop} (hh : A.handled = none) (he : IsEnum s.heap e it i old) (hit : s.heap.IsTupleIter it l i) (hl : s.heap.IsTuple l items) (hx : items[i]? = none)
  (hQ : ∀ h', Heap.ExtBut it s.heap h' → Q none { s with heap := h' }) : wpAny (model prog w) A (pyNext (.ref e)) Q E s := by
 have ty : s.TypeIs (.ref e) "enumerate" := ⟨_, he, rfl⟩
 unfold pyNext
 refine wpAny_bind (wpAny_attempt (wpAny_callSpecial?_slot (name := Str.ofString "__next__") ty F.slot_enumerate_next (wpAny_call_entry F.slot_enumerate_next ty F.entry_enumerate_next ?_ (F.args_enumerate_next_1 _))))
 show wpAny _ _ (field (.ref e) 2 >>= _) _ _ _
 refine wpAny_bind (wpAny_field he rfl (x := .ref it) rfl (wpAny_bind (wpAny_nextOf_tuple_end hh hit hl hx fun h' x k1 k2 => ?_)))
 obtain ⟨o, ho, hc⟩ := k2
 exact wpAny_bind (wpAny_isInstance (T := "StopIteration") (b := true) ⟨o, ho, hc⟩ isSubtype_stop (wpAny_pure (hQ _ k1)))
end PySem
namespace PL
open PySem PySem.Spec PyProof.Rows L2
def Sq (t : Bool) (K : PySem.W.Frag) (H : Hp) (a : Addr) (xs : List V) : Prop := match t with
 | true => SqL K H a xs
 | false => SqT K H a xs
theorem ex_q {t : Bool} {K : PySem.W.Frag} {H H' : Hp} {a : Addr} {xs : List V} (e : Ex H H') (h : Sq t K H a xs) : Sq t K H' a xs := by
 cases t with
 | true => exact ex_l e h
 | false => exact ex_t e h
def ItA (t : Bool) (h : Heap) (it l : Addr) (k : Nat) : Prop := match t with
 | true => h.IsListIter it l k
 | false => h.IsTupleIter it l k
def Src (t : Bool) (h : Heap) (it l : Addr) (k : Nat) (xs : Array Value) : Prop := match t with
 | true => h.IsListIter it l k ∧ h.IsList l xs
 | false => h.IsTupleIter it l k ∧ h.IsTuple l xs
theorem ItA.mv {t : Bool} {h h' : Heap} {it l : Addr} {k : Nat} (q : ItA t h it l k) (e1 : ∀ o, h.get? it = some o → h'.get? it = some o) : ItA t h' it l k := by
 cases t with
 | true => exact Heap.IsListIter.at q e1
 | false => exact Heap.IsTupleIter.at q e1
theorem ItA.obj {t : Bool} {h : Heap} {it l : Addr} {k : Nat} (q : ItA t h it l k) : ∃ o, h.get? it = some o ∧ ∀ v, o.data ≠ .cell v := by
 cases t with
 | true =>
  obtain ⟨o, h1, _, d⟩ := q
  exact ⟨o, h1, fun v e => by rw [d] at e; cases e⟩
 | false =>
  obtain ⟨o, h1, _, d⟩ := q
  exact ⟨o, h1, fun v e => by rw [d] at e; cases e⟩
theorem ItA.lt {t : Bool} {h : Heap} {it l : Addr} {k : Nat} (q : ItA t h it l k) : it < h.objs.size := by
 obtain ⟨o, e, _⟩ := q.obj
 exact Heap.lt_size e
theorem Src.it {t : Bool} {h : Heap} {it l : Addr} {k : Nat} {xs : Array Value} (q : Src t h it l k xs) : ItA t h it l k := by
 cases t with
 | true => exact q.1
 | false => exact q.1
section
variable {X : Cx} {pins : List (Addr × Obj)} {σ : L2.St} {H : Hp} {s : Shared} {t : Bool} {a : Addr} {xs ys : List V}
theorem sq_inv (I : Inv X pins σ H s) (h : Sq t X.K H a xs) : ∃ its : List Value, Vals xs its ∧ a < s.heap.objs.size ∧ ∀ it k, ItA t s.heap it a k → Src t s.heap it a k its.toArray := by
 cases t with
 | true =>
  obtain ⟨its, r, p, _⟩ := I.list h
  exact ⟨its, r, p.lt, fun it k q => ⟨q, p.isList⟩⟩
 | false =>
  obtain ⟨its, r, p, _⟩ := I.tuple h
  obtain ⟨o, ho, _⟩ := id p
  exact ⟨its, r, Heap.lt_size ho, fun it k q => ⟨q, p⟩⟩
theorem sq_inj (I : Inv X pins σ H s) (h : Sq t X.K H a xs) (h' : Sq t X.K H a ys) : xs = ys := by
 cases t with
 | true => exact I.list_inj h h'
 | false => exact I.tuple_inj h h'
end
theorem src_draws {prog : Program} {w : World} {A : Around} (t : Bool) (hh : A.handled = none) (it l : Addr) (hne : l ≠ it) (items : Array Value) :
  Draws prog w A it [it, l] items.size (fun i v => items[i]? = some v) (fun i h => Src t h it l i items) := by
 cases t with
 | true => exact Draws.list hh it l hne items
 | false => exact Draws.tuple hh it l hne items
theorem ybi {prog : Program} {w : World} {A : Around} {E : Value → Shared → Prop} {s : Shared} {t : Bool} {e it l : Addr} {i : Nat} {items : Array Value} {old : Value} {Q : Option Value → Shared → Prop} (hh : A.handled = none) (he : IsEnum s.heap e it i old) (q : Src t s.heap it l i items) (hx : items[i]? = none)
  (hQ : ∀ h', Heap.ExtBut it s.heap h' → Q none { s with heap := h' }) : wpAny (model prog w) A (pyNext (.ref e)) Q E s := by
 cases t with
 | true => exact wpAny_pyNext_enum_end hh he q.1 q.2 hx hQ
 | false => exact PySem.wpAny_pyNext_enum_endT hh he q.1 q.2 hx hQ
def IteP (t : Bool) (K : PySem.W.Frag) (a : Addr) : It :=
 ⟨fun i H => ∃ (xs : List V) (x : V), Sq t K H a xs ∧ xs[i]? = some x, fun i H v H' => ∃ (T : Addr) (x : V) (o : Obj), v = .ref T ∧ H T = none ∧ o.dict = none ∧ H' = upd H T (.frz o (.tup [.int (i : Nat), x])) ∧ ∀ xs, Sq t K H a xs → xs[i]? = some x, fun i H => ∃ xs : List V, Sq t K H a xs ∧ xs.length ≤ i⟩
theorem va4 {P : Program} {w : World} {K : PySem.W.Frag} {elts : List Expr} {kk : Nat} {tpos : Pos} (t : Bool) (a e it : Addr) :
  Turn P w K (.Tuple elts kk tpos) (IteP t K a) [e, it] e (fun i h => (∃ old, IsEnum h e it ((i : Nat) : Int) old) ∧ ItA t h it a i ∧ e ≠ it ∧ a ≠ it ∧ e ≠ a) where
 mem := by simp
 obj := fun i h st b hb => by
  obtain ⟨⟨old, he⟩, hi, _⟩ := st
  have z : b = e ∨ b = it := by simpa using hb
  rcases z with z | z
  ·subst z; exact ⟨_, he, fun v q => nomatch q⟩
  ·subst z; exact hi.obj
 keep := fun i h h' st k => by
  obtain ⟨⟨old, he⟩, hi, hne⟩ := st
  exact ⟨⟨old, k e (by simp) _ he⟩, hi.mv fun o q => k it (by simp) _ q, hne⟩
 item := by
  intro X hP hw hK hc i pins s σ H E I hf st hg
  subst hP hw hK
  obtain ⟨⟨old, he⟩, hit, hne, hai, hea⟩ := st
  obtain ⟨xs, x, hq, hx⟩ := hg
  obtain ⟨its, rv, hal, p⟩ := sq_inv I hq
  obtain ⟨u, hu, ru⟩ := rv.get hx
  have hel : e < s.heap.objs.size := Heap.lt_size he
  have hil : it < s.heap.objs.size := hit.lt
  refine wpAny_pyNext_enum_itemD (src_draws t (show X.A.in1.handled = none from I.ok.hd hc) it a hai its.toArray) he (p _ _ hit) (by rw [List.size_toArray]; exact (List.getElem?_eq_some_iff.mp hu).1) hne (by simp; exact ⟨hne, hea⟩) fun x2 h' tk hx2 ho hit' hT hsz hk => ?_
  have ex : x2 = u := by
   have hx2 : its.toArray[i]? = some x2 := hx2
   rw [List.getElem?_toArray, hu] at hx2
   exact (Option.some.inj hx2).symm
  subst ex
  refine ⟨_, rfl, wpAny_letOwnedTupleGo_enum (s := { s with heap := h', toks := tk + 1 }) ho fun h'' he' sb => ?_⟩
  have hT2 : h''.get? s.heap.objs.size = some { cls := .type "tuple", data := .seq #[.int i tk, x2] } := (sb.2 _ (Nat.ne_of_gt hel)).trans hT
  have I1 := I.turnedNew (T := s.heap.objs.size) (ob := .frz { cls := .type "tuple", data := .seq #[.int i tk, x2] } (.tup [.int (i : Nat), x])) (t' := tk + 1) (h' := h'') (ch := [e, it])
   (fun b ob hb q => (sb.2 b (fun z => hb (by simp [z]))).trans (hk b ob (fun z => hb (by simp [z])) (fun z => hb (by simp [z])) q)) hf (Nat.le_refl _)
   ⟨hT2, by show 2 ≤ sizeLine; decide, [.int i tk, x2], .cons ⟨_, rfl⟩ (.cons ru .nil), ⟨_, hT2, rfl, _, rfl⟩⟩
  refine ⟨.ref s.heap.objs.size, _, I1, rfl, ⟨_, x, _, rfl, I.hok.fresh (Nat.le_refl _), rfl, rfl, fun ys hy => by rw [sq_inj I hy hq]; exact hx⟩, ⟨⟨x2, ?_⟩, hit'.it.mv fun o q => (sb.2 it (Ne.symm hne)).trans q, hne, hai, hea⟩, fun b hb => ?_⟩
  ·have e1 : ((i + 1 : Nat) : Int) = (i : Int) + 1 := by omega
   rw [e1]; exact he'
  ·have hb' : b < s.heap.objs.size := by
    have z : b = e ∨ b = it := by simpa using hb
    rcases z with z | z <;> subst z
    ·exact hel
    ·exact hil
   rw [upd_ne (Nat.ne_of_lt hb')]
   exact (hf b hb).1
 done := by
  intro X hP hw hK hc i pins s σ H E I hf st hg
  subst hP hw hK
  obtain ⟨⟨old, he⟩, hit, hne, hai, hea⟩ := st
  obtain ⟨xs, hq, hx⟩ := hg
  obtain ⟨its, rv, _, p⟩ := sq_inv I hq
  obtain ⟨f0, f1, f2, f3, f4, f5⟩ := hf it (by simp)
  have hl := rv.length
  exact ybi (I.ok.hd hc) he (p _ _ hit) (by simp; omega) fun h' eb => ⟨rfl, I.turned (t' := s.toks) (fun b o hb q => eb b o hb q) f0 f1 f3 f4 f5⟩
 self := fun A i s Q E st h => let ⟨⟨_, he⟩, _⟩ := st; wpAny_pyIter_enum he h
end PL
namespace PL
open PySem PySem.Spec PyProof.Rows L2
theorem Src.mv {t : Bool} {h h' : Heap} {it l : Addr} {k : Nat} {xs : Array Value} (q : Src t h it l k xs) (e1 : ∀ o, h.get? it = some o → h'.get? it = some o) (e2 : ∀ o, h.get? l = some o → h'.get? l = some o) : Src t h' it l k xs := by
 cases t with
 | true => exact ⟨q.1.at e1, q.2.at e2⟩
 | false => exact ⟨q.1.at e1, q.2.at e2⟩
theorem Src.lt {t : Bool} {h : Heap} {it l : Addr} {k : Nat} {xs : Array Value} (q : Src t h it l k xs) : it < h.objs.size := by
 cases t with
 | true => obtain ⟨⟨_, a, _⟩, _⟩ := q; exact Heap.lt_size a
 | false => obtain ⟨⟨_, a, _⟩, _⟩ := q; exact Heap.lt_size a
end PL
namespace PL
open PySem L2
inductive Fl where
 | next
 | ret (r : Rv)
 | brk
 | cont
structure PostS (K : PySem.W.Frag) (fx : List Nat) (σ : Sl) (C H : Hp) (ρ : En) (σ' : Sl) (C' H' : Hp) (ρ' : En) : Prop where
 step : Step C H C' H' (qc σ ρ)
 own : ∀ a, qc σ' ρ' a → qc σ ρ a ∨ H a = none
 env : EnvOk K C' H' σ' ρ'
 fix : ∀ i ∈ fx, σ'[i]? = σ[i]?
 len : σ'.length = σ.length
section
variable {K : PySem.W.Frag} {fx : List Nat} {σ σ1 σ2 : Sl} {C H C1 H1 C2 H2 : Hp} {ρ ρ1 ρ2 : En}
theorem PostS.refl (e : EnvOk K C H σ ρ) : PostS K fx σ C H ρ σ C H ρ := ⟨Step.refl e.ext, fun _ h => .inl h, e, fun _ _ => rfl, rfl⟩
theorem PostS.of (p : Post K σ C H ρ C1 H1 ρ1) : PostS K fx σ C H ρ σ C1 H1 ρ1 := ⟨p.step, fun a h => .inl (p.own a h), p.env, fun _ _ => rfl, rfl⟩
theorem PostS.trans (a : PostS K fx σ C H ρ σ1 C1 H1 ρ1) (b : PostS K fx σ1 C1 H1 ρ1 σ2 C2 H2 ρ2) : PostS K fx σ C H ρ σ2 C2 H2 ρ2 := by
 refine ⟨a.step.trans b.step a.own, fun x h => ?_, b.env, fun i h => (b.fix i h).trans (a.fix i h), b.len.trans a.len⟩
 rcases b.own x h with z | z
 ·exact a.own x z
 ·exact .inr (a.step.dom x z)
end
def Met (K : PySem.W.Frag) (W : WX) (fx : List Nat) (σ : Sl) (C H : Hp) (ρ : En) (D : Ends) : Out Fl → Prop
 | .ok .next ρ' => ∀ σ' C' H', PostS K fx σ C H ρ σ' C' H' ρ' → D.nx σ' H'
 | .ok (.ret r) ρ' => ∀ v σ' C' H', PostS K fx σ C H ρ σ' C' H' ρ' → VOk K H C' H' σ' ρ' v r → D.rt v H'
 | .ok .brk ρ' => ∀ σ' C' H', PostS K fx σ C H ρ σ' C' H' ρ' → D.bk σ' H'
 | .ok .cont ρ' => ∀ σ' C' H', PostS K fx σ C H ρ σ' C' H' ρ' → D.ct σ' H'
 | .ex e ρ' => ∀ d σ' C' H', PostS K fx σ C H ρ σ' C' H' ρ' → ExnOk K C' e d → W (.ref e.c) d σ' H'
def SdS (K : PySem.W.Frag) (W : WX) (fx : List Nat) (ts : TS) (g : P Fl) : Prop :=
 ∀ σ C H ρ out D, EnvOk K C H σ ρ → g ρ = some out → Met K W fx σ C H ρ D out → ts D σ H
theorem Met.later {K : PySem.W.Frag} {W : WX} {fx : List Nat} {σ σ1 : Sl} {C H C1 H1 : Hp} {ρ ρ1 : En} {D : Ends} {out : Out Fl} (p : PostS K fx σ C H ρ σ1 C1 H1 ρ1) (m : Met K W fx σ C H ρ D out) : Met K W fx σ1 C1 H1 ρ1 D out := by
 cases out with
 | ok f ρ' =>
  cases f with
  | next => exact fun σ' C' H' q => m σ' C' H' (p.trans q)
  | ret r => exact fun v σ' C' H' q k => m v σ' C' H' (p.trans q) (k.back p.step.dom)
  | brk => exact fun σ' C' H' q => m σ' C' H' (p.trans q)
  | cont => exact fun σ' C' H' q => m σ' C' H' (p.trans q)
 | ex e ρ' => exact fun d σ' C' H' q k => m d σ' C' H' (p.trans q) k
def xq : P Fl := P.ret .next
def sSeq (g h : P Fl) : P Fl := g.bind fun f => match f with
 | .next => h
 | f => P.ret f
def sIf (c : P Bool) (g h : P Fl) : P Fl := c.bind fun b => if b = true then g else h
def sRet (f : P Rv) : P Fl := f.bind fun r => P.ret (.ret r)
def sRetN : P Fl := P.ret (.ret (.dat (.s .non)))
def ybb (f : P Rv) : P Fl := f.bind fun _ => P.ret .next
def sBrk : P Fl := P.ret .brk
def sCont : P Fl := P.ret .cont
def putD (i : Nat) (d : D) : P Fl := fun ρ => if i < ρ.length then some (.ok .next (ρ.set i (.dat d))) else none
def sSet (i : Nat) (f : P Rv) : P Fl := (xt f).bind fun d => putD i d
def putM (i : Nat) (r : Rv) : P Fl := fun ρ => match r with
 | .new m => if i < ρ.length then some (.ok .next (ρ.set i (.own m))) else none
 | _ => none
def zbj (i : Nat) (f : P Rv) : P Fl := f.bind fun r => putM i r
section
variable {K : PySem.W.Frag} {W : WX} {fx : List Nat} {σ : Sl} {C H : Hp} {ρ : En}
theorem vq {α β : Type} {o : Option (Out α)} {k : α → P β} {out : Out β} (h : jf o k = some out) : (∃ e r, o = some (.ex e r) ∧ out = .ex e r) ∨ ∃ a r, o = some (.ok a r) ∧ k a r = some out := by
 cases o with
 | none => cases h
 | some x =>
  cases x with
  | ok a r => exact .inr ⟨a, r, rfl, h⟩
  | ex e r => exact .inl ⟨e, r, rfl, (Option.some.inj h).symm⟩
theorem xp {α' α : Type} {R : Hp → Rel α' α} {t : Sl → Rd1 α'} {f : P α} {k : α → P Fl} {out : Out Fl} {D : Ends} {Q : α' → Hp → Prop} (hf : Sd K W R t f) (e : EnvOk K C H σ ρ) (h : (f.bind k) ρ = some out) (m : Met K W fx σ C H ρ D out)
  (hk : ∀ a ρ1 v C1 H1, Post K σ C H ρ C1 H1 ρ1 → R H C1 H1 σ ρ1 v a → k a ρ1 = some out → Q v H1) : t σ H Q := by
 rcases vq (show jf (f ρ) k = some out from h) with ⟨x, r, h1, rfl⟩ | ⟨a, r, h1, h2⟩
 ·refine hf σ C H ρ e _ Q h1 (fun a ρ' z => by cases z) fun x' ρ' z d C' H' p q => ?_
  cases z
  exact m d σ C' H' (PostS.of p) q
 ·refine hf σ C H ρ e _ Q h1 (fun a' ρ' z v C' H' p q => ?_) fun x' ρ' z => by cases z
  cases z
  exact hk a r v C' H' p q h2
end
section
variable {K : PySem.W.Frag} {W : WX} {fx : List Nat} {ta : TE} {tt : TT} {t u : TS} {f : P Rv} {c : P Bool} {g h : P Fl}
theorem ss_next : SdS K W fx tNext xq := fun σ C H ρ out D e ho m => by
 cases ho
 exact m σ C H (PostS.refl e)
theorem ss_seq (ht : SdS K W fx t g) (hu : SdS K W fx u h) : SdS K W fx (tSeq t u) (sSeq g h) := by
 intro σ C H ρ out D e ho m
 show t { D with nx := u D } σ H
 rcases vq (show jf (g ρ) _ = some out from ho) with ⟨x, r, h1, rfl⟩ | ⟨a, r, h1, h2⟩
 ·exact ht σ C H ρ _ _ e h1 m
 ·cases a with
  | next => exact ht σ C H ρ _ _ e h1 fun σ' C' H' p => hu σ' C' H' r out D p.env h2 (Met.later p m)
  | ret v => cases h2; exact ht σ C H ρ _ _ e h1 m
  | brk => cases h2; exact ht σ C H ρ _ _ e h1 m
  | cont => cases h2; exact ht σ C H ρ _ _ e h1 m
theorem ss_if (hc : Sd K W BRel tt c) (ht : SdS K W fx t g) (hu : SdS K W fx u h) : SdS K W fx (tIfS tt t u) (sIf c g h) := by
 intro σ C H ρ out D e ho m
 refine xp (k := fun b => if b = true then g else h) hc e ho m fun b ρ1 v C1 H1 p r k => ?_
 have r : v = b := r
 subst r
 cases v with
 | true => exact ht σ C1 H1 ρ1 out D p.env k (Met.later (PostS.of p) m)
 | false => exact hu σ C1 H1 ρ1 out D p.env k (Met.later (PostS.of p) m)
theorem ss_ret (hf : Sd K W (VRel K) ta f) : SdS K W fx (tRet ta) (sRet f) := by
 intro σ C H ρ out D e ho m
 refine xp (k := fun r => P.ret (.ret r)) hf e ho m fun r ρ1 v C1 H1 p q k => ?_
 cases k
 exact m v σ C1 H1 (PostS.of p) q
theorem ss_drop (hf : Sd K W (VRel K) ta f) : SdS K W fx (tDrop ta) (ybb f) := by
 intro σ C H ρ out D e ho m
 refine xp (k := fun _ => P.ret .next) hf e ho m fun r ρ1 v C1 H1 p q k => ?_
 cases k
 exact m σ C1 H1 (PostS.of p)
theorem jas {σ : Sl} {C H : Hp} {ρ : En} {i : Nat} {d : D} {v : V} (e : EnvOk K C H σ ρ) (hi : i ∉ fx) (hl : i < ρ.length) (h : Is K C d v) : PostS K fx σ C H ρ (σ.set i (some v)) C H (ρ.set i (.dat d)) := by
 have lσ : i < σ.length := by rw [e.len]; exact hl
 refine ⟨Step.refl e.ext, fun a ⟨j, m, h1, h2⟩ => .inl ?_, ⟨by rw [List.length_set, List.length_set]; exact e.len, e.ext, fun j c q => ?_, fun j k m n a h1 h2 h3 h4 => ?_, e.tab⟩, fun j hj => ?_, by rw [List.length_set]⟩
 ·by_cases hj : i = j
  ·subst hj; rw [List.getElem?_set_self hl] at h1; cases h1
  ·rw [List.getElem?_set_ne hj] at h1 h2; exact ⟨j, m, h1, h2⟩
 ·by_cases hj : i = j
  ·subst hj
   rw [List.getElem?_set_self hl] at q; cases q
   exact ⟨some v, List.getElem?_set_self lσ, v, rfl, h⟩
  ·rw [List.getElem?_set_ne hj] at q ⊢
   exact e.cell j c q
 ·by_cases hj : i = j
  ·subst hj; rw [List.getElem?_set_self hl] at h1; cases h1
  ·by_cases hk : i = k
   ·subst hk; rw [List.getElem?_set_self hl] at h2; cases h2
   ·rw [List.getElem?_set_ne hj] at h1 h3
    rw [List.getElem?_set_ne hk] at h2 h4
    exact e.inj j k m n a h1 h2 h3 h4
 ·exact List.getElem?_set_ne (fun z => hi (by rw [z]; exact hj))
theorem ss_set {i : Nat} (hi : i ∉ fx) (hf : Sd K W (VRel K) ta f) : SdS K W fx (tAsg ta (gName i)) (sSet i f) := by
 intro σ C H ρ out D e ho m
 refine xp (k := fun d => putD i d) (zw hf) e ho m fun d ρ1 v C1 H1 p q k => ?_
 show D.nx (σ.set i (some v)) H1
 unfold putD at k
 obtain ⟨hl, rfl⟩ := vc k
 exact m _ _ _ ((PostS.of p).trans (jas p.env hi hl q))
theorem ss_setM {i : Nat} (hi : i ∉ fx) (hf : Sd K W (VRel K) ta f) : SdS K W fx (tAsg ta (gName i)) (zbj i f) := by
 intro σ C H ρ out D e ho m
 refine xp (k := fun r => putM i r) hf e ho m fun r ρ1 v C1 H1 p q k => ?_
 show D.nx (σ.set i (some v)) H1
 cases r with
 | dat d => cases k
 | bor j => cases k
 | new mm =>
  obtain ⟨hl, rfl⟩ := vc (show (if i < ρ1.length then some (Out.ok Fl.next (ρ1.set i (.own mm))) else none) = some out from k)
  obtain ⟨a, o, rfl, q2, q3, q4, q5, q6⟩ := q
  have e1 := p.env
  have lσ : i < σ.length := by rw [e1.len]; exact hl
  refine m _ C1 H1 ⟨p.step, fun b ⟨j, m', h1, h2⟩ => ?_, ⟨by rw [List.length_set, List.length_set]; exact e1.len, e1.ext, fun j c h => ?_, fun j k' m1 m2 b h1 h2 h3 h4 => ?_, e1.tab⟩, fun j hj => ?_, by rw [List.length_set]⟩
  ·by_cases hj : i = j
   ·subst hj
    rw [List.getElem?_set_self lσ] at h2
    cases h2
    exact .inr q6
   ·rw [List.getElem?_set_ne hj] at h1 h2
    exact .inl (p.own b ⟨j, m', h1, h2⟩)
  ·by_cases hj : i = j
   ·subst hj
    rw [List.getElem?_set_self hl] at h; cases h
    exact ⟨_, List.getElem?_set_self lσ, a, o, rfl, q2, q3, q4⟩
   ·rw [List.getElem?_set_ne hj] at h ⊢
    exact e1.cell j c h
  ·by_cases hj : i = j
   ·by_cases hk : i = k'
    ·rw [← hj, ← hk]
    ·subst hj
     rw [List.getElem?_set_self lσ] at h3; cases h3
     rw [List.getElem?_set_ne hk] at h2 h4
     exact absurd ⟨k', m2, h2, h4⟩ q5
   ·by_cases hk : i = k'
    ·subst hk
     rw [List.getElem?_set_self lσ] at h4; cases h4
     rw [List.getElem?_set_ne hj] at h1 h3
     exact absurd ⟨j, m1, h1, h3⟩ q5
    ·rw [List.getElem?_set_ne hj] at h1 h3
     rw [List.getElem?_set_ne hk] at h2 h4
     exact e1.inj j k' m1 m2 b h1 h2 h3 h4
  ·exact List.getElem?_set_ne (fun z => hi (by rw [z]; exact hj))
end
section
variable {K : PySem.W.Frag} {σ : Sl} {C H : Hp} {ρ : En}
theorem zac {i : Nat} {m m' : M} {a : Addr} {o : HO} (e : EnvOk K C H σ ρ) (h1 : ρ[i]? = some (.own m)) (h2 : σ[i]? = some (some (.ref a))) (hm : MIs K C m' o) :
  Post K σ C H ρ C (upd H a o) (ρ.set i (.own m')) := by
 obtain ⟨v, hv, p, u, q1, q2, q3, q4⟩ := e.cell i _ h1
 rw [h2] at hv; cases hv; cases q1
 have hl : i < ρ.length := (List.getElem?_eq_some_iff.mp h1).1
 have hne : ∀ b w, C b = some w → b ≠ a := fun b w k z => by rw [z, q2] at k; cases k
 have own : ∀ b, qc σ (ρ.set i (.own m')) b → qc σ ρ b := fun b ⟨j, n, k1, k2⟩ => by
  by_cases hj : i = j
  ·subst hj; exact ⟨i, m, h1, k2⟩
  ·rw [List.getElem?_set_ne hj] at k1; exact ⟨j, n, k1, k2⟩
 have ext : Ex C (upd H a o) := ⟨fun b w k n => by rw [upd_ne (hne b w k)]; exact e.ext.1 b w k n, fun b k => by
  by_cases hb : b = a
  ·rw [hb, upd_same] at k; cases k
  ·rw [upd_ne hb] at k; exact e.ext.2 b k⟩
 have tb : ∀ P, TS1 H P → TS1 (upd H a o) P := fun P q => yak q fun u' z => by rw [q3] at z; cases z; exact q4.nx
 refine ⟨⟨Ex.refl C, ext, fun b w k _ nb => ?_, fun b k1 k2 => absurd k1 k2, fun b k => ?_, tb⟩, own, ⟨by rw [List.length_set]; exact e.len, ext, fun j c k => ?_, fun j k n1 n2 b k1 k2 k3 k4 => ?_, fun P h => tb P (e.tab P h)⟩⟩
 ·rw [upd_ne (fun z => nb ⟨i, m, h1, by rw [z]; exact h2⟩)]; exact k
 ·by_cases hb : b = a
  ·subst hb; rw [upd_same] at k; cases k
  ·rw [upd_ne hb] at k; exact k
 ·by_cases hj : i = j
  ·subst hj
   rw [List.getElem?_set_self hl] at k; cases k
   exact ⟨_, h2, a, o, rfl, q2, upd_same, hm⟩
  ·rw [List.getElem?_set_ne hj] at k
   obtain ⟨w, hw, ok⟩ := e.cell j c k
   refine ⟨w, hw, ?_⟩
   cases c with
   | no => trivial
   | dat d => exact ok
   | own n =>
    obtain ⟨p', u', r1, r2, r3, r4⟩ := ok
    refine ⟨p', u', r1, r2, ?_, r4⟩
    have : p' ≠ a := fun z => hj (e.inj i j m n a h1 k h2 (by rw [hw, r1, z]))
    rw [upd_ne this]; exact r3
 ·by_cases hj : i = j
  ·by_cases hk : i = k
   ·rw [← hj, ← hk]
   ·rw [List.getElem?_set_ne hk] at k2
    subst hj
    exact e.inj i k m n2 b h1 k2 k3 k4
  ·rw [List.getElem?_set_ne hj] at k1
   by_cases hk : i = k
   ·subst hk
    exact e.inj j i n1 m b k1 h1 k3 k4
   ·rw [List.getElem?_set_ne hk] at k2
    exact e.inj j k n1 n2 b k1 k2 k3 k4
theorem xaf {i : Nat} {m : M} (e : EnvOk K C H σ ρ) (h1 : ρ[i]? = some (.own m)) : ∃ a o, σ[i]? = some (some (.ref a)) ∧ C a = none ∧ H a = some o ∧ MIs K C m o := by
 obtain ⟨v, hv, p, u, q1, q2, q3, q4⟩ := e.cell i _ h1
 exact ⟨p, u, by rw [hv, q1], q2, q3, q4⟩
end
def ownL (i : Nat) {α : Type} (k : List D → P α) : P α := fun ρ => match ρ[i]? with
 | some (.own (.lst ds)) => k ds ρ
 | _ => none
def setL (i : Nat) {α : Type} (ds : List D) (a : α) : P α := fun ρ => some (.ok a (ρ.set i (.own (.lst ds))))
def fAppend (i : Nat) (fe : P Rv) : P Rv := ownL i fun _ => (xt fe).bind fun d => ownL i fun ds => if ds.length < sizeLine then setL i (ds ++ [d]) (.dat (.s .non)) else P.fail
section
variable {K : PySem.W.Frag} {W : WX} {σ : Sl} {C H : Hp} {ρ : En}
theorem At.ownL {α' α : Type} {R : Rel α' α} {t : Rd1 α'} {i : Nat} {k : List D → P α} (e : EnvOk K C H σ ρ)
  (h : ∀ ds a xs, ρ[i]? = some (.own (.lst ds)) → σ[i]? = some (some (.ref a)) → H a = some (.lst xs) → Iss K C ds xs → At K W R σ C H ρ t (k ds ρ)) : At K W R σ C H ρ t (PL.ownL i k ρ) := by
 unfold PL.ownL
 cases q : ρ[i]? with
 | none => exact At.nil
 | some c =>
  cases c with
  | no => exact At.nil
  | dat d => exact At.nil
  | own m =>
   cases m with
   | dk kvs => exact At.nil
   | dt kvs => exact At.nil
   | dn _ _ _ => exact At.nil
   | ob c fs => exact At.nil
   | lst ds =>
    obtain ⟨a, o, h1, h2, h3, xs, rfl, h4⟩ := xaf e q
    exact h ds a xs q h1 h3 h4
end
def sIncL (i k : Nat) (c : Int) : P Fl := ownL i fun ds => match ds[k]? with
 | some (.s (.int n)) => setL i (ds.set k (.s (.int (n + c)))) .next
 | _ => P.fail
theorem pget_list {X : Cx} : PGet X (fun x y H Q => ∃ p xs k v, x = .ref p ∧ y = .int ((k : Nat) : Int) ∧ SqL X.K H p xs ∧ xs[k]? = some v ∧ Q v H) := by
 intro pins s σ H o i ov iv Q I rx ry h
 obtain ⟨p, xs, k, z, rfl, rfl, hq, he, q⟩ := h
 cases rx
 obtain ⟨t, rfl⟩ := ry
 obtain ⟨its, r, pl, hz⟩ := I.list hq
 obtain ⟨w, ew, rw'⟩ := r.get he
 have hl := r.length
 have hn := line63
 have hk : k < xs.length := (List.getElem?_eq_some_iff.mp he).1
 exact wpAny_getItem_list pl.isList (by omega) (by omega) (by simpa using ew) ⟨z, H, I, rw', q⟩
section
variable {K : PySem.W.Frag} {W : WX} {fx : List Nat} {σ : Sl} {C H : Hp} {ρ : En}
theorem ss_incL {i k : Nat} {c : Int} : SdS K W fx (tAugS (tVar i) (tC (.int ((k : Nat) : Int))) (tC (.int c)) (fun x y H Q => ∃ p xs k v, x = .ref p ∧ y = .int ((k : Nat) : Int) ∧ SqL K H p xs ∧ xs[k]? = some v ∧ Q v H) (rI0 fun i j => .int (i + j)) rSetL) (sIncL i k c) := by
 intro σ C H ρ out D e ho m
 have key : At K W (fun C H σ ρ (v : V) (f : Fl) => f = .next) σ C H ρ (fun H Q => ∃ v, σ[i]? = some (some v) ∧ ∃ p xs k' w, v = .ref p ∧ (V.int ((k : Nat) : Int)) = .int ((k' : Nat) : Int) ∧ SqL K H p xs ∧ xs[k']? = some w ∧
   ∃ a b, w = .int a ∧ V.int c = .int b ∧ rSetL v (.int ((k : Nat) : Int)) (.int (a + b)) H fun H6 => Q .non H6) (sIncL i k c ρ) := by
  refine At.ownL e fun ds a xs h0 h1 h2 h3 => ?_
  cases q : ds[k]? with
  | none => exact At.nil
  | some d =>
   cases d with
   | s x =>
    cases x with
    | int n =>
     obtain ⟨w, hw, hi⟩ := h3.get q
     cases is_s_iff.mp hi
     have hk : k < xs.length := (List.getElem?_eq_some_iff.mp hw).1
     refine At.of fun Q hq => ⟨_, h1, a, xs, k, _, rfl, rfl, SqL.of h2, hw, n, c, rfl, rfl, a, xs, _, k, rfl, rfl, h2, ?_, ?_⟩
     ·unfold ixN
      rw [if_pos (by omega), if_pos (by omega)]
      simp
     ·exact hq .non C _ (zac e h0 h1 ⟨_, rfl, h3.set k is_s⟩) rfl
    | _ => exact At.nil
   | _ => exact At.nil
 refine (key out (fun _ H6 => D.nx σ H6) ho (fun f ρ' z v C' H' p r => ?_) fun x ρ' z d C' H' p q => ?_)
 ·subst z
  cases (show f = Fl.next from r)
  exact m σ C' H' (PostS.of p)
 ·subst z
  exact m d σ C' H' (PostS.of p) q
end
abbrev Tgt := D → En → Option En
def aN (i : Nat) : Tgt := fun d ρ => if i < ρ.length then some (ρ.set i (.dat d)) else none
def aT (n : Nat) (as : List D → En → Option En) : Tgt := fun d ρ => match d with
 | .tup ds => if ds.length = n then as ds ρ else none
 | _ => none
def aNil : List D → En → Option En := fun ds ρ => match ds with
 | [] => some ρ
 | _ => none
def zbr (a : Tgt) (as : List D → En → Option En) : List D → En → Option En := fun ds ρ => match ds with
 | d :: ds => match a d ρ with
  | some ρ' => as ds ρ'
  | none => none
 | [] => none
structure PostG (K : PySem.W.Frag) (js : List Nat) (σ : Sl) (C H : Hp) (ρ : En) (σ' : Sl) (C' H' : Hp) (ρ' : En) : Prop where
 step : Step C H C' H' (fun _ => False)
 own : ∀ a, qc σ' ρ' a → qc σ ρ a
 env : EnvOk K C' H' σ' ρ'
 slot : ∀ i, i ∉ js → σ'[i]? = σ[i]?
 len : σ'.length = σ.length
def SdG (K : PySem.W.Frag) (js : List Nat) (tg : TG) (a : Tgt) : Prop := ∀ σ C H ρ d v ρ' Q, EnvOk K C H σ ρ → Is K C d v → a d ρ = some ρ' → (∀ σ' C' H', PostG K js σ C H ρ σ' C' H' ρ' → Q σ' H') → tg v σ H Q
def SdGs (K : PySem.W.Frag) (js : List Nat) (tg : TGs) (a : List D → En → Option En) : Prop := ∀ σ C H ρ ds vs ρ' Q, EnvOk K C H σ ρ → Iss K C ds vs → a ds ρ = some ρ' → (∀ σ' C' H', PostG K js σ C H ρ σ' C' H' ρ' → Q σ' H') → tg vs σ H Q
section
variable {K : PySem.W.Frag} {js ks : List Nat}
theorem PostG.postS {fx : List Nat} {σ σ' : Sl} {C H C' H' : Hp} {ρ ρ' : En} (p : PostG K js σ C H ρ σ' C' H' ρ') (h : ∀ i ∈ fx, i ∉ js) : PostS K fx σ C H ρ σ' C' H' ρ' :=
 ⟨p.step.weak fun _ z => z.elim, fun a z => .inl (p.own a z), p.env, fun i hi => p.slot i (h i hi), p.len⟩
theorem sg_name {i : Nat} : SdG K [i] (gName i) (aN i) := by
 intro σ C H ρ d v ρ' Q e hd ha hq
 obtain ⟨hl, rfl⟩ := vc ha
 have p := jas (fx := []) e (by simp) hl hd
 refine hq _ C H ⟨Step.refl e.ext, fun a ⟨j, m, h1, h2⟩ => ?_, p.env, fun j hj => ?_, p.len⟩
 ·by_cases hj : i = j
  ·subst hj; rw [List.getElem?_set_self hl] at h1; cases h1
  ·rw [List.getElem?_set_ne hj] at h1 h2; exact ⟨j, m, h1, h2⟩
 ·exact List.getElem?_set_ne (fun z => hj (by simp [z]))
theorem sgs_nil : SdGs K [] gNil aNil := by
 intro σ C H ρ ds vs ρ' Q e hd ha hq
 cases ds with
 | nil =>
  cases ha
  exact ⟨iss_nil_iff.mp hd, hq σ C H ⟨Step.refl e.ext, fun _ h => h, e, fun _ _ => rfl, rfl⟩⟩
 | cons d ds => cases ha
theorem PostG.trans {σ σ1 σ2 : Sl} {C H C1 H1 C2 H2 : Hp} {ρ ρ1 ρ2 : En} (a : PostG K js σ C H ρ σ1 C1 H1 ρ1) (b : PostG K ks σ1 C1 H1 ρ1 σ2 C2 H2 ρ2) : PostG K (js ++ ks) σ C H ρ σ2 C2 H2 ρ2 :=
 ⟨a.step.trans b.step fun _ z => z.elim, fun x h => a.own x (b.own x h), b.env, fun i hi => (b.slot i fun z => hi (List.mem_append_right _ z)).trans (a.slot i fun z => hi (List.mem_append_left _ z)), b.len.trans a.len⟩
theorem sgs_cons {tg : TG} {tgs : TGs} {a : Tgt} {as : List D → En → Option En} (h1 : SdG K js tg a) (h2 : SdGs K ks tgs as) : SdGs K (js ++ ks) (gCons tg tgs) (zbr a as) := by
 intro σ C H ρ ds vs ρ' Q e hd ha hq
 cases ds with
 | nil => cases ha
 | cons d ds =>
  obtain ⟨x, r, rfl, k1, k2⟩ := iss_cons_iff.mp hd
  simp only [zbr] at ha
  cases q : a d ρ with
  | none => rw [q] at ha; cases ha
  | some ρ1 =>
   rw [q] at ha
   exact ⟨x, r, rfl, h1 σ C H ρ d x ρ1 _ e k1 q fun σ1 C1 H1 p1 => h2 σ1 C1 H1 ρ1 ds r ρ' Q p1.env (Iss.mono p1.step.core ds r k2) ha fun σ2 C2 H2 p2 => hq σ2 C2 H2 (p1.trans p2)⟩
theorem sg_tup {n : Nat} {tgs : TGs} {as : List D → En → Option En} (h : SdGs K js tgs as) : SdG K js (gTup K n tgs) (aT n as) := by
 intro σ C H ρ d v ρ' Q e hd ha hq
 cases d with
 | tup ds =>
  obtain ⟨hl, ha⟩ := (show (if ds.length = n then as ds ρ else none) = some ρ' → ds.length = n ∧ as ds ρ = some ρ' from fun z => by
   by_cases c : ds.length = n
   ·rw [if_pos c] at z; exact ⟨c, z⟩
   ·rw [if_neg c] at z; cases z) ha
  obtain ⟨a, xs, rfl, k1, k2⟩ := yr hd
  exact ⟨a, xs, rfl, ex_t e.ext k1, by rw [k2.length]; exact hl, h σ C H ρ ds xs ρ' Q e k2 ha hq⟩
 | s x => cases ha
 | lst ds => cases ha
 | ro ds => cases ha
 | obj c fs => cases ha
 | lam f c zs ks => cases ha
 | dic kvs => cases ha
 | exc c b fs => cases ha
 | lab a d => cases ha
end
def sExt (i : Nat) (f : P Rv) : P Fl := ownL i fun _ => f.bind fun r => fun ρ => match peek ρ r with
 | some (.lst es) => (ownL i fun ds => if ds.length + es.length ≤ sizeLine then setL i (ds ++ es) .next else P.fail) ρ
 | _ => none
def ItOk (K : PySem.W.Frag) (C : Hp) (J : It) (ds : List D) : Prop := ∀ C' H', Ex C C' → Ex C' H' → ∀ i, (i < ds.length → J.go i H') ∧ (ds.length ≤ i → J.stop i H') ∧
 ∀ x H'' d, J.yld i H' x H'' → ds[i]? = some d → ∃ C'', Step C' H' C'' H'' (fun _ => False) ∧ Is K C'' d x
def kaq (K : PySem.W.Frag) (_ : Hp) : Rel It (List D) := fun C _ _ _ J ds => ItOk K C J ds
section
variable {K : PySem.W.Frag} {W : WX}
theorem it_list {C : Hp} {a : Addr} {ds : List D} {xs : List V} (h : SqL K C a xs) (hs : Iss K C ds xs) : ItOk K C (Itl K a) ds := by
 intro C' H' e1 e2 i
 have h' : SqL K H' a xs := ex_l e2 (ex_l e1 h)
 refine ⟨fun hi => ?_, fun hi => ⟨xs, h', by rw [hs.length]; exact hi⟩, fun x H'' d hy hd => ?_⟩
 ·obtain ⟨x, hx, _⟩ := hs.get (List.getElem?_eq_getElem hi)
  exact ⟨xs, x, h', hx⟩
 ·obtain ⟨rfl, hy⟩ := hy
  obtain ⟨y, k1, k2⟩ := hs.get hd
  have k3 := hy xs h'
  rw [k1] at k3; cases k3
  exact ⟨C', Step.refl e2, Is.mono e1 d _ k2⟩
theorem it_tup {C : Hp} {a : Addr} {ds : List D} {xs : List V} (h : SqT K C a xs) (hs : Iss K C ds xs) : ItOk K C (Itt K a) ds := by
 intro C' H' e1 e2 i
 have h' : SqT K H' a xs := ex_t e2 (ex_t e1 h)
 refine ⟨fun hi => ?_, fun hi => ⟨xs, h', by rw [hs.length]; exact hi⟩, fun x H'' d hy hd => ?_⟩
 ·obtain ⟨x, hx, _⟩ := hs.get (List.getElem?_eq_getElem hi)
  exact ⟨xs, x, h', hx⟩
 ·obtain ⟨rfl, hy⟩ := hy
  obtain ⟨y, k1, k2⟩ := hs.get hd
  have k3 := hy xs h'
  rw [k1] at k3; cases k3
  exact ⟨C', Step.refl e2, Is.mono e1 d _ k2⟩
def rngD (lo : Int) (n : Nat) : List D := (List.range n).map fun i => .s (.int (lo + (i : Nat)))
theorem rngD_get {lo : Int} {n i : Nat} {d : D} (h : (rngD lo n)[i]? = some d) : i < n ∧ d = .s (.int (lo + (i : Nat))) := by
 unfold rngD at h
 rw [List.getElem?_map] at h
 by_cases hi : i < n
 ·rw [List.getElem?_range hi] at h
  exact ⟨hi, (Option.some.inj h).symm⟩
 ·rw [List.getElem?_eq_none (by rw [List.length_range]; omega)] at h
  cases h
theorem rngD_len (lo : Int) (n : Nat) : (rngD lo n).length = n := by unfold rngD; rw [List.length_map, List.length_range]
theorem it_rng {C : Hp} {lo : Int} {n : Nat} : ItOk K C (Itr lo n) (rngD lo n) := by
 intro C' H' e1 e2 i
 refine ⟨fun hi => by rw [rngD_len] at hi; exact hi, fun hi => by rw [rngD_len] at hi; exact hi, fun x H'' d hy hd => ?_⟩
 obtain ⟨rfl, rfl⟩ := hy
 obtain ⟨_, rfl⟩ := rngD_get hd
 exact ⟨C', Step.refl e2, is_s⟩
def ya4 (z : Str) : List D := z.cps.toList.map fun c => .s (.str ⟨#[c]⟩)
theorem it_str {C : Hp} {z : Str} : ItOk K C (Its z) (ya4 z) := by
 intro C' H' e1 e2 i
 have hl : (ya4 z).length = z.cps.size := by unfold ya4; rw [List.length_map, Array.length_toList]
 refine ⟨fun hi => by rw [hl] at hi; exact hi, fun hi => by rw [hl] at hi; exact hi, fun x H'' d hy hd => ?_⟩
 obtain ⟨rfl, c, hc, rfl⟩ := hy
 unfold ya4 at hd
 rw [List.getElem?_map, Array.getElem?_toList, hc] at hd
 cases hd
 exact ⟨C', Step.refl e2, is_s⟩
def yb (n : Nat) : List D → List D
 | [] => []
 | d :: ds => .tup [.s (.int (n : Nat)), d] :: yb (n + 1) ds
theorem yy : ∀ (n : Nat) (ds : List D), (yb n ds).length = ds.length
 | _, [] => rfl
 | n, d :: ds => by unfold yb; rw [List.length_cons, List.length_cons, yy]
theorem zap : ∀ {n : Nat} {ds : List D} {i : Nat} {d : D}, (yb n ds)[i]? = some d → ∃ x, ds[i]? = some x ∧ d = .tup [.s (.int ((n + i : Nat))), x]
 | n, [], i, d, h => by simp [yb] at h
 | n, x :: ds, 0, d, h => by simp [yb] at h; exact ⟨x, rfl, by rw [← h]; rfl⟩
 | n, x :: ds, i + 1, d, h => by
  obtain ⟨y, h1, h2⟩ := zap (n := n + 1) (ds := ds) (i := i) (d := d) (by simpa [yb] using h)
  exact ⟨y, by simpa using h1, by rw [h2, show n + 1 + i = n + (i + 1) by omega]⟩
theorem xbe {C : Hp} {tt : Bool} {a : Addr} {ds : List D} {xs : List V} (h : Sq tt K C a xs) (hs : Iss K C ds xs) : ItOk K C (IteP tt K a) (yb 0 ds) := by
 intro C' H' e1 e2 i
 have h' : Sq tt K H' a xs := ex_q e2 (ex_q e1 h)
 refine ⟨fun hi => ?_, fun hi => ⟨xs, h', by rw [hs.length]; rw [yy] at hi; exact hi⟩, fun x H'' d hy hd => ?_⟩
 ·rw [yy] at hi
  obtain ⟨x, hx, _⟩ := hs.get (List.getElem?_eq_getElem hi)
  exact ⟨xs, x, h', hx⟩
 ·obtain ⟨T, y, o, rfl, hT, ho, rfl, hy⟩ := hy
  obtain ⟨z, k1, rfl⟩ := zap hd
  obtain ⟨w, k2, k3⟩ := hs.get k1
  obtain rfl : w = y := Option.some.inj (k2.symm.trans (hy xs h'))
  have st := Step.newD (o := .frz o (.tup [.int (i : Nat), w])) e2 hT
  refine ⟨_, st, is_tup (.of upd_same ho) (kc ?_ (kc (Is.mono (e1.trans st.core) z w k3) qf))⟩
  rw [Nat.zero_add]
  exact is_s
end
end PL
namespace PL
open PySem PySem.Spec PyProof.Rows L2
end PL
namespace PL
open PySem L2
def iX (K : PySem.W.Frag) (tl : TE) : TI := fun σ H R => iList K tl σ H R ∨ iTup K tl σ H R ∨ iStr tl σ H R
theorem pi_X {X : Cx} {tg l : Expr} {tl : TE} (hl : PE X l tl) : PI X tg l (iX X.K tl) := by
 refine ⟨fun pins s σ H R I h => ?_⟩
 rcases h with h | h | h
 ·exact (pi_list hl).run pins s σ H R I h
 ·exact (pi_tup hl).run pins s σ H R I h
 ·exact (pi_str hl).run pins s σ H R I h
def walked : D → Option (List D)
 | .s (.str z) => some (ya4 z)
 | d => items d
def xab (f : P Rv) : P (List D) := (xt f).bind fun d => P.of (walked d)
section
variable {K : PySem.W.Frag} {W : WX} {σ : Sl} {C H : Hp} {ρ : En}
theorem sd_iter {tl : TE} {f : P Rv} (hf : Sd K W (VRel K) tl f) : Sd K W (kaq K) (iX K tl) (xab f) := by
 intro σ C H ρ e out Q ho hok hex
 have hg := zw hf σ C H ρ e
 rcases vq (show jf (xt f ρ) _ = some out from ho) with ⟨x, r, h1, rfl⟩ | ⟨d, r, h1, h2⟩
 ·refine .inl (hg _ _ h1 (fun a ρ' z => by cases z) fun x' ρ' z d C' H' p q => ?_)
  cases z
  exact hex x r rfl d C' H' p q
 ·unfold P.of at h2
  cases q : walked d with
  | none => rw [q] at h2; cases h2
  | some ds =>
   rw [q] at h2; cases h2
   cases d with
   | s x =>
    cases x with
    | str z =>
     cases q
     refine .inr (.inr (hg _ _ h1 (fun a ρ' z v C' H' p r => ?_) fun x' ρ' z => by cases z))
     cases z
     cases is_s_iff.mp r
     exact ⟨_, rfl, hok _ _ rfl _ C' H' p it_str⟩
    | _ => cases q
   | tup es =>
    cases q
    refine .inr (.inl (hg _ _ h1 (fun a ρ' z v C' H' p r => ?_) fun x' ρ' z => by cases z))
    cases z
    obtain ⟨b, xs, rfl, k1, k2⟩ := yr r
    exact ⟨b, rfl, ⟨xs, ex_t p.env.ext k1⟩, hok _ _ rfl _ C' H' p (it_tup k1 k2)⟩
   | lst es =>
    cases q
    refine .inl (hg _ _ h1 (fun a ρ' z v C' H' p r => ?_) fun x' ρ' z => by cases z)
    cases z
    obtain ⟨b, xs, rfl, k1, k2⟩ := is_lst_iff.mp r
    exact ⟨b, rfl, ⟨xs, SqL.of (p.env.ext.1 _ _ k1 ko)⟩, hok _ _ rfl _ C' H' p (it_list (SqL.of k1) k2)⟩
   | ro es =>
    cases q
    refine .inl (hg _ _ h1 (fun a ρ' z v C' H' p r => ?_) fun x' ρ' z => by cases z)
    cases z
    obtain ⟨b, xs, rfl, k1, k2⟩ := is_ro_iff.mp r
    exact ⟨b, rfl, ⟨xs, ex_l p.env.ext k1⟩, hok _ _ rfl _ C' H' p (it_list k1 k2)⟩
   | obj c fs => cases q
   | lam f c zs ks => cases q
   | dic kvs => cases q
   | exc c b fs => cases q
   | lab a d => cases q
@[irreducible] def inBd (j : Int) : Bool := decide (-(2 ^ 62) ≤ j) && decide (j < 2 ^ 62)
theorem inBd_of {j : Int} (h : inBd j = true) : -(2 ^ 62) ≤ j ∧ j < 2 ^ 62 := by
 unfold inBd at h
 simp only [Bool.and_eq_true, decide_eq_true_eq] at h
 exact h
def fRng1 (fs : P (List Rv)) : P (List D) := fs.bind fun rs => pks rs fun ds => match ds with
 | [.s (.int j)] => if inBd j = true then P.ret (rngD 0 j.toNat) else P.fail
 | _ => P.fail
theorem sd_rng1 {t : TA} {fs : P (List Rv)} (hf : Sd K W (vbh K) t fs) : Sd K W (kaq K) (iRng1 t) (fRng1 fs) := by
 intro σ C H ρ e
 show At K W (kaq K H) σ C H ρ (fun H R => t σ H fun vs H1 => ∃ j : Int, vs = [.int j] ∧ -(2 ^ 62) ≤ j ∧ j < 2 ^ 62 ∧ R (Itr 0 j.toNat) H1) (jf (fs ρ) fun rs => pks rs fun ds => match ds with
  | [.s (.int j)] => if inBd j = true then P.ret (rngD 0 j.toNat) else P.fail
  | _ => P.fail)
 refine At.bind (tk := fun (vs : List V) (H1 : Hp) (R : It → Hp → Prop) => ∃ j : Int, vs = [.int j] ∧ -(2 ^ 62) ≤ j ∧ j < 2 ^ 62 ∧ R (Itr 0 j.toNat) H1) (hf σ C H ρ e) fun rs ρ1 vs C1 H1 p1 r1 => ?_
 refine At.pks fun ds q1 => ?_
 have pk := peeks_pk p1.env r1 q1
 split
 ·obtain ⟨v, r, rfl, k1, k2⟩ := pks1 pk
  cases pks0 k2
  cases pk_s.mp k1
  rename_i j
  by_cases hb : inBd j = true
  ·rw [if_pos hb]
   obtain ⟨b1, b2⟩ := inBd_of hb
   exact At.imp (At.ret (R := kaq K H) p1.env (it_rng (K := K) (C := C1) (lo := 0) (n := j.toNat))) fun Q h => ⟨j, rfl, b1, b2, h⟩
  ·rw [if_neg hb]; exact At.nil
 ·exact At.nil
end
def zag (a : Tgt) (body : P Fl) : List D → P Fl
 | [] => P.ret .next
 | d :: ds => fun ρ => match a d ρ with
  | none => none
  | some ρ1 => jf (body ρ1) fun f => match f with
   | .next => zag a body ds
   | .cont => zag a body ds
   | .brk => P.ret .next
   | .ret r => P.ret (.ret r)
def sFor (fi : P (List D)) (a : Tgt) (body : P Fl) : P Fl := fi.bind fun ds => zag a body ds
theorem qav {α : Type} {l : List α} {i : Nat} {x : α} (h : l[i]? = some x) : l.drop i = x :: l.drop (i + 1) := by
 obtain ⟨h1, h2⟩ := List.getElem?_eq_some_iff.mp h
 rw [List.drop_eq_getElem_cons h1, h2]
section
variable {K : PySem.W.Frag} {W : WX} {fx js : List Nat}
theorem ss_for {wi : TI} {fi : P (List D)} {tg : TG} {a : Tgt} {tb : TS} {body : P Fl} (hj : ∀ i ∈ fx, i ∉ js) (hi : Sd K W (kaq K) wi fi) (hg : SdG K js tg a) (hb : SdS K W fx tb body) : SdS K W fx (tFor wi tg tb) (sFor fi a body) := by
 intro σ C H ρ out D e ho m
 refine xp (k := fun ds => zag a body ds) (Q := fun J H1 => ∃ W : Nat → Nat → L2.St → Hp → Prop, (∃ m, W 0 m σ H1) ∧ ∀ i m σ H, W i m σ H →
  (J.stop i H ∧ D.nx σ H) ∨ (J.go i H ∧ ∃ N : L2.St → Hp → Prop, (∀ σ' H', N σ' H' → ∃ m', m' < m ∧ W (i + 1) m' σ' H') ∧ ∀ x H', J.yld i H x H' → tg x σ H' fun σ2 H2 => tb { D with nx := N, ct := N, bk := D.nx } σ2 H2)) hi e ho m fun ds ρ1 J C1 H1 p r k => ?_
 refine ⟨fun i n σ' H' => ∃ C' ρ', n = ds.length - i ∧ i ≤ ds.length ∧ PostS K fx σ C1 H1 ρ1 σ' C' H' ρ' ∧ zag a body (ds.drop i) ρ' = some out, ⟨ds.length, C1, ρ1, by simp, Nat.zero_le _, PostS.refl p.env, k⟩, ?_⟩
 rintro i n σ' H' ⟨C', ρ', rfl, hi, q, ho'⟩
 have it := r C' H' q.step.core q.env.ext i
 by_cases hlt : i < ds.length
 ·obtain ⟨d, hd⟩ : ∃ d, ds[i]? = some d := ⟨_, List.getElem?_eq_getElem hlt⟩
  rw [qav hd] at ho'
  refine .inr ⟨it.1 hlt, fun σ2 H2 => ∃ C2 ρ2, PostS K fx σ C1 H1 ρ1 σ2 C2 H2 ρ2 ∧ zag a body (ds.drop (i + 1)) ρ2 = some out, fun σ2 H2 ⟨C2, ρ2, h1, h2⟩ => ⟨ds.length - (i + 1), by omega, C2, ρ2, rfl, hlt, h1, h2⟩, fun x H'' hy => ?_⟩
  obtain ⟨C'', st, hx⟩ := it.2.2 x H'' d hy hd
  have e2 : EnvOk K C'' H'' σ' ρ' := q.env.step st
  have q2 : PostS K fx σ C1 H1 ρ1 σ' C'' H'' ρ' := q.trans (PostS.of (Post.of_step q.env st))
  unfold zag at ho'
  cases z : a d ρ' with
  | none => rw [z] at ho'; cases ho'
  | some ρ2 =>
   rw [z] at ho'
   refine hg σ' C'' H'' ρ' d x ρ2 _ e2 hx z fun σ3 C3 H3 p3 => ?_
   have q3 := q2.trans (p3.postS hj)
   rcases vq ho' with ⟨x', r', h1, rfl⟩ | ⟨f, r', h1, h2⟩
   ·exact hb σ3 C3 H3 ρ2 _ _ p3.env h1 (Met.later q3 (Met.later (PostS.of p) m))
   ·cases f with
    | next => exact hb σ3 C3 H3 ρ2 _ _ p3.env h1 fun σ4 C4 H4 p4 => ⟨C4, r', q3.trans p4, h2⟩
    | cont => exact hb σ3 C3 H3 ρ2 _ _ p3.env h1 fun σ4 C4 H4 p4 => ⟨C4, r', q3.trans p4, h2⟩
    | brk =>
     cases h2
     exact hb σ3 C3 H3 ρ2 _ _ p3.env h1 fun σ4 C4 H4 p4 => m σ4 C4 H4 (((PostS.of p).trans q3).trans p4)
    | ret v =>
     cases h2
     exact hb σ3 C3 H3 ρ2 _ _ p3.env h1 (Met.later q3 (Met.later (PostS.of p) m))
 ·have ei : i = ds.length := by omega
  subst ei
  rw [List.drop_length] at ho'
  cases ho'
  exact .inl ⟨it.2.1 (Nat.le_refl _), m σ' C' H' ((PostS.of p).trans q)⟩
end
end PL
namespace PL
open PySem L2
def yg (ρ : En) : List Nat → En
 | [] => ρ
 | v :: vs => (yg ρ vs).set v .no
def waa (ρ0 ρ : En) : List Nat → En
 | [] => ρ
 | v :: vs => match ρ0[v]? with
  | some c => (waa ρ0 ρ vs).set v c
  | none => waa ρ0 ρ vs
def jac (vs : List Nat) (a : Tgt) (tests : P Bool) (elt : P Rv) : List D → List D → En → Option (List D × En)
 | [], acc, ρ => some (acc, ρ)
 | d :: ds, acc, ρ => match a d ρ with
  | none => none
  | some ρ1 => match tests ρ1 with
   | some (.ok true ρ2) => (match xt elt ρ2 with
    | some (.ok y ρ3) => if acc.length < sizeLine then jac vs a tests elt ds (acc ++ [y]) (yg ρ3 vs) else none
    | _ => none)
   | some (.ok false ρ2) => jac vs a tests elt ds acc (yg ρ2 vs)
   | _ => none
def vy (vs : List Nat) (fi : P (List D)) (a : Tgt) (tests : P Bool) (elt : P Rv) : P Rv := fi.bind fun ds => fun ρ => match jac vs a tests elt ds [] (yg ρ vs) with
 | some (acc, ρ') => some (.ok (.new (.lst acc)) (waa ρ ρ' vs))
 | none => none
def fYes : P Bool := P.ret true
theorem jg (σ : Sl) (i : Nat) : ∀ vs : List Nat, (wipe σ vs)[i]? = if i ∈ vs then (if i < σ.length then some none else none) else σ[i]?
 | [] => by simp [wipe]
 | v :: vs => by
  have ih := jg σ i vs
  unfold wipe
  by_cases h : v = i
  ·subst h
   rw [if_pos List.mem_cons_self]
   by_cases hl : v < σ.length
   ·rw [if_pos hl, List.getElem?_set_self (by rw [wipe_length]; exact hl)]
   ·rw [if_neg hl, List.getElem?_eq_none (by rw [List.length_set, wipe_length]; omega)]
  ·rw [List.getElem?_set_ne h, ih]
   have : i ∈ v :: vs ↔ i ∈ vs := by simp [Ne.symm h]
   simp only [this]
theorem vad (ρ : En) : ∀ vs : List Nat, (yg ρ vs).length = ρ.length
 | [] => rfl
 | v :: vs => by unfold yg; rw [List.length_set, vad ρ vs]
theorem xv (ρ : En) (i : Nat) : ∀ vs : List Nat, (yg ρ vs)[i]? = if i ∈ vs then (if i < ρ.length then some .no else none) else ρ[i]?
 | [] => by simp [yg]
 | v :: vs => by
  have ih := xv ρ i vs
  unfold yg
  by_cases h : v = i
  ·subst h
   rw [if_pos List.mem_cons_self]
   by_cases hl : v < ρ.length
   ·rw [if_pos hl, List.getElem?_set_self (by rw [vad]; exact hl)]
   ·rw [if_neg hl, List.getElem?_eq_none (by rw [List.length_set, vad]; omega)]
  ·rw [List.getElem?_set_ne h, ih]
   have : i ∈ v :: vs ↔ i ∈ vs := by simp [Ne.symm h]
   simp only [this]
theorem xw (ρ0 ρ : En) : ∀ vs : List Nat, (waa ρ0 ρ vs).length = ρ.length
 | [] => rfl
 | v :: vs => by
  unfold waa
  cases ρ0[v]? with
  | none => exact xw ρ0 ρ vs
  | some c => rw [List.length_set]; exact xw ρ0 ρ vs
theorem vw (ρ0 ρ : En) (i : Nat) (hl : ρ0.length = ρ.length) : ∀ vs : List Nat, (waa ρ0 ρ vs)[i]? = if i ∈ vs then ρ0[i]? else ρ[i]?
 | [] => by simp [waa]
 | v :: vs => by
  have ih := vw ρ0 ρ i hl vs
  unfold waa
  cases q : ρ0[v]? with
  | none =>
   by_cases h : v = i
   ·subst h
    rw [if_pos List.mem_cons_self, q]
    have : ρ0.length ≤ v := List.getElem?_eq_none_iff.mp q
    exact List.getElem?_eq_none (by rw [xw]; omega)
   ·have : i ∈ v :: vs ↔ i ∈ vs := by simp [Ne.symm h]
    simp only [this]
    exact ih
  | some c =>
   have hv : v < ρ0.length := (List.getElem?_eq_some_iff.mp q).1
   by_cases h : v = i
   ·subst h
    rw [if_pos List.mem_cons_self]
    dsimp only
    rw [List.getElem?_set_self (by rw [xw]; omega), q]
   ·dsimp only
    rw [List.getElem?_set_ne h, ih]
    have : i ∈ v :: vs ↔ i ∈ vs := by simp [Ne.symm h]
    simp only [this]
section
variable {K : PySem.W.Frag} {σ : Sl} {C H : Hp} {ρ : En} {vs : List Nat}
theorem kq {a : Addr} (h : qc (wipe σ vs) (yg ρ vs) a) : ∃ (i : Nat) (m : M), i ∉ vs ∧ ρ[i]? = some (.own m) ∧ σ[i]? = some (some (.ref a)) := by
 obtain ⟨i, m, h1, h2⟩ := h
 rw [xv] at h1
 rw [jg] at h2
 by_cases hi : i ∈ vs
 ·rw [if_pos hi] at h1
  by_cases hl : i < ρ.length
  ·rw [if_pos hl] at h1; cases h1
  ·rw [if_neg hl] at h1; cases h1
 ·rw [if_neg hi] at h1 h2
  exact ⟨i, m, hi, h1, h2⟩
theorem EnvOk.wipe (e : EnvOk K C H σ ρ) : EnvOk K C H (L2.wipe σ vs) (yg ρ vs) := by
 refine ⟨by rw [wipe_length, vad]; exact e.len, e.ext, fun i c h => ?_, fun i j m n a h1 h2 h3 h4 => ?_, e.tab⟩
 ·rw [xv] at h
  rw [jg]
  by_cases hi : i ∈ vs
  ·rw [if_pos hi] at h ⊢
   by_cases hl : i < ρ.length
   ·rw [if_pos hl] at h; cases h
    rw [if_pos (by rw [e.len]; exact hl)]
    exact ⟨none, rfl, trivial⟩
   ·rw [if_neg hl] at h; cases h
  ·rw [if_neg hi] at h ⊢
   exact e.cell i c h
 ·obtain ⟨hi, h1'⟩ : i ∉ vs ∧ ρ[i]? = some (.own m) := by
   rw [xv] at h1
   by_cases hi : i ∈ vs
   ·rw [if_pos hi] at h1
    by_cases hl : i < ρ.length
    ·rw [if_pos hl] at h1; cases h1
    ·rw [if_neg hl] at h1; cases h1
   ·rw [if_neg hi] at h1; exact ⟨hi, h1⟩
  obtain ⟨hj, h2'⟩ : j ∉ vs ∧ ρ[j]? = some (.own n) := by
   rw [xv] at h2
   by_cases hi : j ∈ vs
   ·rw [if_pos hi] at h2
    by_cases hl : j < ρ.length
    ·rw [if_pos hl] at h2; cases h2
    ·rw [if_neg hl] at h2; cases h2
   ·rw [if_neg hi] at h2; exact ⟨hi, h2⟩
  rw [jg, if_neg hi] at h3
  rw [jg, if_neg hj] at h4
  exact e.inj i j m n a h1' h2' h3 h4
theorem wipe_eq {σ' : Sl} {js : List Nat} (hs : ∀ i, i ∉ js → σ'[i]? = (wipe σ vs)[i]?) (hl : σ'.length = (wipe σ vs).length) (hj : ∀ j ∈ js, j ∈ vs) : wipe σ' vs = wipe σ vs := by
 apply List.ext_getElem?
 intro i
 rw [jg, jg σ]
 rw [wipe_length] at hl
 by_cases hi : i ∈ vs
 ·rw [if_pos hi, if_pos hi, hl]
 ·rw [if_neg hi, if_neg hi, hs i fun z => hi (hj i z), jg, if_neg hi]
theorem EnvOk.aside {L : Addr} {o : HO} (e : EnvOk K C H σ ρ) (hc : C L = none) (hn : ¬ qc σ ρ L) (hx : ∀ u, H L = some u → NX u) : EnvOk K C (upd H L o) σ ρ := by
 refine ⟨e.len, ⟨fun a u h n => ?_, fun a h => ?_⟩, fun i c h => ?_, e.inj, fun P h => yak (e.tab P h) hx⟩
 ·rw [upd_ne (fun z => by rw [z, hc] at h; cases h)]; exact e.ext.1 a u h n
 ·by_cases hb : a = L
  ·rw [hb]; exact hc
  ·rw [upd_ne hb] at h; exact e.ext.2 a h
 ·obtain ⟨v, hv, ok⟩ := e.cell i c h
  refine ⟨v, hv, ?_⟩
  cases c with
  | no => trivial
  | dat d => exact ok
  | own m =>
   obtain ⟨p, u, q1, q2, q3, q4⟩ := ok
   refine ⟨p, u, q1, q2, ?_, q4⟩
   rw [upd_ne (fun z => hn ⟨i, m, h, by rw [hv, q1, z]⟩)]; exact q3
end
structure CompI (K : PySem.W.Frag) (σ : Sl) (vs : List Nat) (C1 H1 : Hp) (ρ1 : En) (L : Addr) (acc : List D) (C H : Hp) (ρ : En) : Prop where
 env : EnvOk K C H (wipe σ vs) ρ
 step : Step C1 H1 C H (qc (wipe σ vs) (yg ρ1 vs))
 own : ∀ a, qc (wipe σ vs) ρ a → qc (wipe σ vs) (yg ρ1 vs) a
 lst : ∃ xs, H L = some (.lst xs) ∧ Iss K C acc xs
 core : C L = none
section
variable {K : PySem.W.Frag} {W : WX} {js vs : List Nat}
theorem no_exn {σ : Sl} {C H : Hp} {ρ : En} {α' α : Type} {R : Rel α' α} {t : Rd1 α'} {o : Option (Out α)} (h : At K (fun _ _ _ _ => False) R σ C H ρ t o) {a : α} {ρ' : En} (e : o = some (.ok a ρ')) {Q : α' → Hp → Prop}
  (hq : ∀ v C' H', Post K σ C H ρ C' H' ρ' → R C' H' σ ρ' v a → Q v H') : t H Q := by
 refine h _ Q e (fun b ρ2 z v C' H' p r => ?_) fun x ρ2 z => by cases z
 cases z
 exact hq v C' H' p r
theorem sd_comp {wi : TI} {fi : P (List D)} {tg : TG} {a : Tgt} {tt : TT} {tests : P Bool} {te : TE} {elt : P Rv} (hj : ∀ j ∈ js, j ∈ vs) (hi : Sd K W (kaq K) wi fi) (hg : SdG K js tg a)
  (ht : Sd K (fun _ _ _ _ => False) BRel tt tests) (he : Sd K (fun _ _ _ _ => False) (VRel K) te elt) : Sd K W (VRel K) (tLc wi tg tt te vs) (vy vs fi a tests elt) := by
 intro σ C H ρ e out Q ho hok hex
 rcases vq (show jf (fi ρ) _ = some out from ho) with ⟨x, r, h1, rfl⟩ | ⟨ds, ρ1, h1, h2⟩
 ·refine hi σ C H ρ e _ _ h1 (fun a ρ' z => by cases z) fun x' ρ' z d C' H' p q => ?_
  cases z
  exact hex x r rfl d C' H' p q
 refine hi σ C H ρ e _ _ h1 (fun ds' ρ' z J C1 H1 p1 r => ?_) fun x' ρ' z => by cases z
 cases z
 intro L hL
 have e1 := p1.env
 have cL : C1 L = none := e1.ext.none hL
 have nL : ¬ qc σ ρ1 L := fun ⟨i, m, k1, k2⟩ => by
  obtain ⟨p, o, q1, q2, q3, q4⟩ := xaf e1 k1
  rw [k2] at q1; cases q1
  rw [hL] at q3; cases q3
 have nLw : ¬ qc (wipe σ vs) (yg ρ1 vs) L := fun h => by
  obtain ⟨i, m, _, k1, k2⟩ := kq h
  exact nL ⟨i, m, k1, k2⟩
 cases hc : jac vs a tests elt ds [] (yg ρ1 vs) with
 | none => simp only [hc] at h2; cases h2
 | some z =>
  obtain ⟨accF, ρF⟩ := z
  simp only [hc] at h2
  cases h2
  refine ⟨fun i n H' => ∃ acc C' ρ', n = ds.length - i ∧ i ≤ ds.length ∧ CompI K σ vs C1 H1 ρ1 L acc C' H' ρ' ∧ jac vs a tests elt (ds.drop i) acc ρ' = some (accF, ρF),
   ⟨ds.length, [], C1, yg ρ1 vs, by simp, Nat.zero_le _, ⟨(e1.wipe).aside cL nLw (fun u z => by rw [hL] at z; cases z), (Step.newM e1.ext hL).weak fun _ z => z.elim, fun _ h => h, ⟨[], upd_same, qf⟩, cL⟩, hc⟩, ?_⟩
  rintro i n H' ⟨acc, C', ρ', rfl, hi', q, hcf⟩
  have it := r C' H' q.step.core q.env.ext i
  by_cases hlt : i < ds.length
  ·obtain ⟨d, hd⟩ : ∃ d, ds[i]? = some d := ⟨_, List.getElem?_eq_getElem hlt⟩
   rw [qav hd] at hcf
   refine .inr ⟨it.1 hlt, fun H2 => ∃ acc C2 ρ2, CompI K σ vs C1 H1 ρ1 L acc C2 H2 ρ2 ∧ jac vs a tests elt (ds.drop (i + 1)) acc ρ2 = some (accF, ρF),
    fun H2 ⟨acc, C2, ρ2, k1, k2⟩ => ⟨ds.length - (i + 1), by omega, acc, C2, ρ2, rfl, hlt, k1, k2⟩, fun x H'' hy => ?_⟩
   obtain ⟨C'', st, hx⟩ := it.2.2 x H'' d hy hd
   have e2 : EnvOk K C'' H'' (wipe σ vs) ρ' := q.env.step st
   simp only [jac] at hcf
   cases z : a d ρ' with
   | none => simp only [z] at hcf; cases hcf
   | some ρ2 =>
    simp only [z] at hcf
    refine hg (wipe σ vs) C'' H'' ρ' d x ρ2 _ e2 hx z fun σ3 C3 H3 p3 => ?_
    have hw : wipe σ3 vs = wipe σ vs := wipe_eq p3.slot p3.len hj
    refine ⟨hw, ?_⟩
    -- what has been kept so far
    have st3 : Step C' H' C3 H3 (fun _ => False) := st.trans p3.step fun _ z => z.elim
    have own3 : ∀ b, qc σ3 ρ2 b → qc (wipe σ vs) (yg ρ1 vs) b := fun b h => q.own b (p3.own b h)
    -- the next turn's state
    have next : ∀ {C4 H4 : Hp} {ρ4 : En}, Post K σ3 C3 H3 ρ2 C4 H4 ρ4 → CompI K σ vs C1 H1 ρ1 L acc C4 H4 (yg ρ4 vs) := fun {C4 H4 ρ4} p4 => by
     obtain ⟨xs, l1, l2⟩ := q.lst
     have l3 : H3 L = some (.lst xs) := st3.keep L _ l1 ko fun z => z
     have nl3 : ¬ qc σ3 ρ2 L := fun h => nLw (own3 L h)
     have stA : Step C' H' C4 H4 (qc (wipe σ vs) (yg ρ1 vs)) := (st3.weak fun _ z => z.elim).trans (p4.step.weak fun b h => .inl (own3 b h)) fun b h => .inl h
     refine ⟨by rw [← hw]; exact p4.env.wipe, q.step.trans stA fun b h => .inl h, fun b h => ?_, ⟨xs, p4.step.keep L _ l3 ko nl3, Iss.mono (st3.core.trans p4.step.core) _ _ l2⟩, ?_⟩
     ·rw [← hw] at h
      obtain ⟨j, m, _, k1, k2⟩ := kq h
      exact own3 b (p4.own b ⟨j, m, k1, k2⟩)
     ·cases k : C4 L with
      | none => rfl
      | some u =>
       rcases stA.new L q.core (by rw [k]; exact fun z => by cases z) with z | z
       ·rw [l1] at z; cases z
       ·exact absurd z nLw
    cases y : tests ρ2 with
    | none => simp only [y] at hcf; cases hcf
    | some o =>
     cases o with
     | ex x' r' => simp only [y] at hcf; cases hcf
     | ok b ρ3 =>
      refine no_exn (ht σ3 C3 H3 ρ2 p3.env) y fun vb C4 H4 p4 r4 => ?_
      have r4 : vb = b := r4
      subst r4
      cases vb with
      | false =>
       simp only [y] at hcf
       show ∃ acc C2 ρ2, _
       exact ⟨acc, C4, _, next p4, hcf⟩
      | true =>
       simp only [y] at hcf
       show te σ3 H4 fun y H4 => _
       cases w : xt elt ρ3 with
       | none => simp only [w] at hcf; cases hcf
       | some o =>
        cases o with
        | ex x' r' => simp only [w] at hcf; cases hcf
        | ok dy ρ5 =>
         simp only [w] at hcf
         by_cases hz : acc.length < sizeLine
         ·rw [if_pos hz] at hcf
          refine no_exn (zw he σ3 C4 H4 ρ3 p4.env) w fun yv C5 H5 p5 r5 => ?_
          have nx := next (p4.trans p5)
          obtain ⟨xs, l1, l2⟩ := nx.lst
          refine ⟨xs, l1, by rw [l2.length]; exact hz, acc ++ [dy], C5, _, ⟨nx.env.aside nx.core (fun h => nLw (nx.own L h)) (fun u z => by rw [l1] at z; cases z; exact ⟨ko, fun _ z => by cases z⟩), ?_, nx.own, ⟨_, upd_same, l2.app (kc r5 qf)⟩, nx.core⟩, hcf⟩
          refine ⟨nx.step.core, ⟨fun b u h n => ?_, fun b h => ?_⟩, fun b u h nt hb => ?_, nx.step.new, fun b h => ?_, fun P q => yak (nx.step.tabs P q) (fun u z => by rw [l1] at z; cases z; exact ⟨ko, fun _ z => by cases z⟩)⟩
          ·rw [upd_ne (fun z => by rw [z, nx.core] at h; cases h)]; exact nx.env.ext.1 b u h n
          ·by_cases hbL : b = L
           ·rw [hbL]; exact nx.core
           ·rw [upd_ne hbL] at h; exact nx.env.ext.2 b h
          ·rw [upd_ne (fun z => by rw [z, hL] at h; cases h)]; exact nx.step.keep b u h nt hb
          ·by_cases hbL : b = L
           ·rw [hbL, upd_same] at h; cases h
           ·rw [upd_ne hbL] at h; exact nx.step.dom b h
         ·rw [if_neg hz] at hcf; cases hcf
  ·have ei : i = ds.length := by omega
   subst ei
   rw [List.drop_length] at hcf
   simp only [jac] at hcf
   cases hcf
   obtain ⟨xs, l1, l2⟩ := q.lst
   refine .inl ⟨it.2.1 (Nat.le_refl _), ?_⟩
   have el : ρ1.length = ρF.length := by rw [← e1.len, ← q.env.len, wipe_length]
   have stW : Step C1 H1 C' H' (qc σ ρ1) := q.step.weak fun b h => by
    obtain ⟨j, m, _, k1, k2⟩ := kq h
    exact .inl ⟨j, m, k1, k2⟩
   have ownR : ∀ b, qc σ (waa ρ1 ρF vs) b → qc σ ρ1 b := fun b ⟨j, m, k1, k2⟩ => by
    rw [vw ρ1 ρF j el] at k1
    by_cases hjv : j ∈ vs
    ·rw [if_pos hjv] at k1; exact ⟨j, m, k1, k2⟩
    ·rw [if_neg hjv] at k1
     obtain ⟨j', m', _, z1, z2⟩ := kq (q.own b ⟨j, m, k1, by rw [jg, if_neg hjv]; exact k2⟩)
     exact ⟨j', m', z1, z2⟩
   -- a thing of a wiped slot is no thing within
   have apart : ∀ (j : Nat) (m : M) (p : Addr), j ∈ vs → ρ1[j]? = some (.own m) → σ[j]? = some (some (.ref p)) → ¬ qc (wipe σ vs) (yg ρ1 vs) p := fun j m p hjv k1 k2 h => by
    obtain ⟨j', m', hn, z1, z2⟩ := kq h
    exact hn (by rw [← e1.inj j j' m m' p k1 z1 k2 z2]; exact hjv)
   have envR : EnvOk K C' H' σ (waa ρ1 ρF vs) := by
    refine ⟨by rw [xw, ← el]; exact e1.len, q.env.ext, fun j c k => ?_, fun i j m n b k1 k2 k3 k4 => ?_, q.env.tab⟩
    ·rw [vw ρ1 ρF j el] at k
     by_cases hjv : j ∈ vs
     ·rw [if_pos hjv] at k
      obtain ⟨v, hv, ok⟩ := e1.cell j c k
      refine ⟨v, hv, ?_⟩
      cases c with
      | no => trivial
      | dat d => obtain ⟨y, hy, z⟩ := ok; exact ⟨y, hy, Is.mono q.step.core d y z⟩
      | own m =>
       obtain ⟨p, o, q1, q2, q3, q4⟩ := ok
       have ap := apart j m p hjv k (by rw [hv, q1])
       refine ⟨p, o, q1, ?_, q.step.keep p o q3 q4.nx.1 ap, q4.mono q.step.core⟩
       cases z : C' p with
       | none => rfl
       | some u =>
        rcases q.step.new p q2 (by rw [z]; exact fun z => by cases z) with z | z
        ·rw [q3] at z; cases z
        ·exact absurd z ap
     ·rw [if_neg hjv] at k
      obtain ⟨v, hv, ok⟩ := q.env.cell j c k
      rw [jg, if_neg hjv] at hv
      exact ⟨v, hv, ok⟩
    ·rw [vw ρ1 ρF i el] at k1
     rw [vw ρ1 ρF j el] at k2
     have out : ∀ (i : Nat) (m : M), i ∉ vs → ρF[i]? = some (.own m) → σ[i]? = some (some (.ref b)) → qc (wipe σ vs) (yg ρ1 vs) b := fun i m hn z1 z2 => q.own b ⟨i, m, z1, by rw [jg, if_neg hn]; exact z2⟩
     by_cases hiv : i ∈ vs
     ·rw [if_pos hiv] at k1
      by_cases hjv : j ∈ vs
      ·rw [if_pos hjv] at k2; exact e1.inj i j m n b k1 k2 k3 k4
      ·rw [if_neg hjv] at k2
       exact absurd (out j n hjv k2 k4) (apart i m b hiv k1 k3)
     ·rw [if_neg hiv] at k1
      by_cases hjv : j ∈ vs
      ·rw [if_pos hjv] at k2
       exact absurd (out i m hiv k1 k3) (apart j n b hjv k2 k4)
      ·rw [if_neg hjv] at k2
       exact q.env.inj i j m n b k1 k2 (by rw [jg, if_neg hiv]; exact k3) (by rw [jg, if_neg hjv]; exact k4)
   refine hok _ _ rfl (.ref L) C' H' (p1.trans ⟨stW, ownR, envR⟩) ?_
   exact ⟨L, _, rfl, q.core, l1, ⟨xs, rfl, l2⟩, fun h => nL (ownR L h), p1.step.dom L hL⟩
end
end PL
namespace PL
open PySem L2
def rvD : Rv → Bool
 | .bor _ => false
 | _ => true
def spF (K : PySem.W.Frag) (n : Nat) (F : P Rv) : Sp := fun vs H Q E => vs.length = n ∧ ∃ C cs out, EnvOk K C H (vs.map some) cs ∧ F cs = some out ∧
 (∀ r cs', out = .ok r cs' → rvD r = true ∧ ∀ v C' H', Post K (vs.map some) C H cs C' H' cs' → VOk K H C' H' (vs.map some) cs' v r → Q v H') ∧
 (∀ e cs', out = .ex e cs' → ∀ d C' H', Post K (vs.map some) C H cs C' H' cs' → ExnOk K C' e d → E (.ref e.c) d H')
def merge (fx : List Nat) : Nat → List Cell → En → Option (List Cell)
 | _, [], _ => some []
 | k, .own _ :: cs, .own m :: ρ => if k ∈ fx then (match merge fx (k + 1) cs ρ with
  | some r => some (.own m :: r)
  | none => none) else none
 | _, .own _ :: _, _ => none
 | k, c :: cs, _ :: ρ => match merge fx (k + 1) cs ρ with
  | some r => some (c :: r)
  | none => none
 | _, _ :: _, [] => none
def handed (n : Nat) (ρ : En) : Rv → Option Rv
 | .dat d => some (.dat d)
 | .new m => some (.new m)
 | .bor i => match ρ[i]? with
  | some (.dat d) => some (.dat d)
  | some (.own m) => if n ≤ i then some (.new m) else none
  | _ => none
def runF (fx : List Nat) (N : Nat) (body : P Fl) : P Rv := fun cs => match body (cs ++ List.replicate (N - cs.length) .no) with
 | some (.ok (.ret r) ρ) => (match handed cs.length ρ r with
  | some r' => (match merge fx 0 cs ρ with
   | some cs' => some (.ok r' cs')
   | none => none)
  | none => none)
 | some (.ok .next ρ) => (match merge fx 0 cs ρ with
  | some cs' => some (.ok (.dat (.s .non)) cs')
  | none => none)
 | some (.ex e ρ) => (match merge fx 0 cs ρ with
  | some cs' => some (.ex e cs')
  | none => none)
 | _ => none
theorem qag {fx : List Nat} : ∀ {k : Nat} {cs : List Cell} {ρ : En} {cs' : List Cell}, merge fx k cs ρ = some cs' → cs'.length = cs.length ∧
  ∀ i c, cs'[i]? = some c → (cs[i]? = some c ∧ ∀ m, c ≠ .own m) ∨ ∃ m m', c = .own m' ∧ cs[i]? = some (.own m) ∧ ρ[i]? = some (.own m') ∧ k + i ∈ fx
 | k, [], ρ, cs', h => by
  simp only [merge] at h
  cases h
  exact ⟨rfl, fun i c h => by simp at h⟩
 | k, c0 :: cs, ρ, cs', h => by
  have step : ∀ (c1 : Cell) (ρr : En) (r : List Cell), merge fx (k + 1) cs ρr = some r → cs' = c1 :: r → (ρr = ρ.tail) →
    ((c1 = c0 ∧ ∀ m, c1 ≠ .own m) ∨ ∃ m m', c1 = .own m' ∧ c0 = .own m ∧ ρ[0]? = some (.own m') ∧ k ∈ fx) → cs'.length = (c0 :: cs).length ∧
    ∀ i c, cs'[i]? = some c → ((c0 :: cs)[i]? = some c ∧ ∀ m, c ≠ .own m) ∨ ∃ m m', c = .own m' ∧ (c0 :: cs)[i]? = some (.own m) ∧ ρ[i]? = some (.own m') ∧ k + i ∈ fx := by
   intro c1 ρr r hr e et h0
   subst e
   obtain ⟨l, g⟩ := qag hr
   refine ⟨by rw [List.length_cons, List.length_cons, l], fun i c hc => ?_⟩
   cases i with
   | zero =>
    have hc : c1 = c := by simpa using hc
    subst hc
    rcases h0 with ⟨rfl, h1⟩ | ⟨m, m', rfl, rfl, h1, h2⟩
    ·exact .inl ⟨by simp, h1⟩
    ·exact .inr ⟨m, m', rfl, by simp, h1, h2⟩
   | succ i =>
    have hc : r[i]? = some c := by simpa using hc
    rcases g i c hc with ⟨h1, h2⟩ | ⟨m, m', h1, h2, h3, h4⟩
    ·exact .inl ⟨by simpa using h1, h2⟩
    ·refine .inr ⟨m, m', h1, by simpa using h2, ?_, by rw [show k + (i + 1) = k + 1 + i by omega]; exact h4⟩
     rw [et] at h3
     rw [List.getElem?_tail] at h3
     exact h3
  cases ρ with
  | nil => cases c0 <;> simp only [merge] at h <;> cases h
  | cons c2 ρ =>
   cases c0 with
   | no =>
    simp only [merge] at h
    cases q : merge fx (k + 1) cs ρ with
    | none => simp only [q] at h; cases h
    | some r => simp only [q] at h; cases h; exact step .no ρ r q rfl rfl (.inl ⟨rfl, fun m z => by cases z⟩)
   | dat d =>
    simp only [merge] at h
    cases q : merge fx (k + 1) cs ρ with
    | none => simp only [q] at h; cases h
    | some r => simp only [q] at h; cases h; exact step (.dat d) ρ r q rfl rfl (.inl ⟨rfl, fun m z => by cases z⟩)
   | own m =>
    cases c2 with
    | no => simp only [merge] at h; cases h
    | dat d => simp only [merge] at h; cases h
    | own m' =>
     simp only [merge] at h
     by_cases hk : k ∈ fx
     ·rw [if_pos hk] at h
      cases q : merge fx (k + 1) cs ρ with
      | none => simp only [q] at h; cases h
      | some r => simp only [q] at h; cases h; exact step (.own m') ρ r q rfl rfl (.inr ⟨m, m', rfl, rfl, rfl, hk⟩)
     ·rw [if_neg hk] at h; cases h
theorem vay {fx : List Nat} : ∀ {k : Nat} {cs : List Cell} {ρ : En} {cs' : List Cell}, merge fx k cs ρ = some cs' → ∀ i m, cs[i]? = some (.own m) → ∃ m', ρ[i]? = some (.own m') ∧ cs'[i]? = some (.own m') ∧ k + i ∈ fx := by
 intro k cs ρ cs' h i m hi
 obtain ⟨l, g⟩ := qag h
 have il : i < cs'.length := by rw [l]; exact (List.getElem?_eq_some_iff.mp hi).1
 rcases g i _ (List.getElem?_eq_getElem il) with ⟨h1, h2⟩ | ⟨m1, m2, h1, h2, h3, h4⟩
 ·rw [hi] at h1
  exact absurd (Option.some.inj h1).symm (h2 m)
 ·exact ⟨m2, h3, by rw [List.getElem?_eq_getElem il, h1], h4⟩
section
variable {K : PySem.W.Frag} {W : WX} {fx : List Nat}
theorem zax {N : List Str} {vs : List V} {i : Nat} {v : V} (h : (L2.start N vs)[i]? = some (some v)) : (vs.map some)[i]? = some (some v) ∧ i < vs.length := by
 unfold L2.start at h
 by_cases hi : i < vs.length
 ·rw [List.getElem?_append_left (by rw [List.length_map]; exact hi)] at h
  exact ⟨h, hi⟩
 ·rw [List.getElem?_append_right (by rw [List.length_map]; omega)] at h
  have := List.mem_of_getElem? h
  rw [List.mem_replicate] at this
  cases this.2
theorem wak {N : List Str} {vs : List V} {i : Nat} {x : Option V} (h : (vs.map some)[i]? = some x) : (L2.start N vs)[i]? = some x := by
 unfold L2.start
 have hi : i < vs.length := by
  have := (List.getElem?_eq_some_iff.mp h).1
  rw [List.length_map] at this; exact this
 rw [List.getElem?_append_left (by rw [List.length_map]; exact hi)]
 exact h
theorem cs_get {cs : List Cell} {n i : Nat} {c : Cell} (h : (cs ++ List.replicate n .no)[i]? = some c) : cs[i]? = some c ∨ c = .no := by
 by_cases hi : i < cs.length
 ·rw [List.getElem?_append_left hi] at h
  exact .inl h
 ·rw [List.getElem?_append_right (by omega)] at h
  have := List.mem_of_getElem? h
  rw [List.mem_replicate] at this
  exact .inr this.2
theorem EnvOk.begin {C H : Hp} {vs : List V} {cs : List Cell} {N : List Str} (hN : vs.length ≤ N.length) (e : EnvOk K C H (vs.map some) cs) : EnvOk K C H (L2.start N vs) (cs ++ List.replicate (N.length - cs.length) .no) := by
 have le : cs.length = vs.length := by rw [← e.len, List.length_map]
 refine ⟨by unfold L2.start; rw [List.length_append, List.length_append, List.length_map, List.length_replicate, List.length_replicate, le], e.ext, fun i c h => ?_, fun i j m n a h1 h2 h3 h4 => ?_, e.tab⟩
 ·rcases cs_get h with h1 | rfl
  ·obtain ⟨v, hv, ok⟩ := e.cell i c h1
   exact ⟨v, wak hv, ok⟩
  ·have hl : i < (cs ++ List.replicate (N.length - cs.length) Cell.no).length := (List.getElem?_eq_some_iff.mp h).1
   have hs : i < (L2.start N vs).length := by
    unfold L2.start
    rw [List.length_append, List.length_map, List.length_replicate]
    rw [List.length_append, List.length_replicate] at hl
    omega
   exact ⟨(L2.start N vs)[i], List.getElem?_eq_getElem hs, trivial⟩
 ·rcases cs_get h1 with h1 | z
  ·rcases cs_get h2 with h2 | z
   ·exact e.inj i j m n a h1 h2 (zax h3).1 (zax h4).1
   ·cases z
  ·cases z
theorem wax {vs : List V} {cs : List Cell} {N : List Str} {n : Nat} {a : Addr} (h : qc (L2.start N vs) (cs ++ List.replicate n .no) a) : qc (vs.map some) cs a := by
 obtain ⟨i, m, h1, h2⟩ := h
 rcases cs_get h1 with h1 | z
 ·exact ⟨i, m, h1, (zax h2).1⟩
 ·cases z
theorem Post.finish {C H C' H' : Hp} {vs : List V} {cs cs' : List Cell} {N : List Str} {n : Nat} {σ' : Sl} {ρ' : En} (e : EnvOk K C H (vs.map some) cs) (p : PostS K fx (L2.start N vs) C H (cs ++ List.replicate n .no) σ' C' H' ρ') (hm : merge fx 0 cs ρ' = some cs') :
  Post K (vs.map some) C H cs C' H' cs' := by
 obtain ⟨l, g⟩ := qag hm
 have st : Step C H C' H' (qc (vs.map some) cs) := p.step.weak fun a z => .inl (wax z)
 have slot : ∀ (i : Nat) (m : M), cs[i]? = some (.own m) → σ'[i]? = (vs.map some)[i]? := fun i m h => by
  obtain ⟨m', h1, h2, h3⟩ := vay hm i m h
  rw [Nat.zero_add] at h3
  rw [p.fix i h3]
  obtain ⟨v, hv, _⟩ := e.cell i _ h
  rw [hv]
  exact wak hv
 refine ⟨st, fun a ⟨i, m, h1, h2⟩ => ?_, ⟨by rw [l]; exact e.len, p.env.ext, fun i c h => ?_, fun i j m n a h1 h2 h3 h4 => ?_, p.env.tab⟩⟩
 ·rcases g i _ h1 with ⟨k1, k2⟩ | ⟨m1, m2, k1, k2, k3, k4⟩
  ·exact absurd rfl (k2 m)
  ·exact ⟨i, m1, k2, h2⟩
 ·rcases g i _ h with ⟨k1, k2⟩ | ⟨m1, m2, rfl, k2, k3, k4⟩
  ·obtain ⟨v, hv, ok⟩ := e.cell i c k1
   refine ⟨v, hv, ?_⟩
   cases c with
   | no => trivial
   | dat d => obtain ⟨y, hy, z⟩ := ok; exact ⟨y, hy, Is.mono st.core d y z⟩
   | own m => exact absurd rfl (k2 m)
  ·obtain ⟨v, hv, ok⟩ := p.env.cell i _ k3
   rw [slot i m1 k2] at hv
   exact ⟨v, hv, ok⟩
 ·rcases g i _ h1 with ⟨k1, k2⟩ | ⟨m1, m2, k1, k2, k3, k4⟩
  ·exact absurd rfl (k2 m)
  ·rcases g j _ h2 with ⟨q1, q2⟩ | ⟨n1, n2, q1, q2, q3, q4⟩
   ·exact absurd rfl (q2 n)
   ·exact p.env.inj i j m2 n2 a k3 q3 (by rw [slot i m1 k2]; exact h3) (by rw [slot j n1 q2]; exact h4)
theorem VOk.finish {C H C' H' : Hp} {vs : List V} {cs cs' : List Cell} {N : List Str} {n : Nat} {σ' : Sl} {ρ' : En} {v : V} {r r' : Rv} (e : EnvOk K C H (vs.map some) cs) (p : PostS K fx (L2.start N vs) C H (cs ++ List.replicate n .no) σ' C' H' ρ')
  (hm : merge fx 0 cs ρ' = some cs') (h : VOk K H C' H' σ' ρ' v r) (hh : handed cs.length ρ' r = some r') : rvD r' = true ∧ VOk K H C' H' (vs.map some) cs' v r' := by
 obtain ⟨l, g⟩ := qag hm
 have P := Post.finish e p hm
 have slot : ∀ (i : Nat) (m : M), cs[i]? = some (.own m) → σ'[i]? = (vs.map some)[i]? := fun i m h => by
  obtain ⟨m', h1, h2, h3⟩ := vay hm i m h
  rw [Nat.zero_add] at h3
  rw [p.fix i h3]
  obtain ⟨v, hv, _⟩ := e.cell i _ h
  rw [hv]
  exact wak hv
 have up : ∀ a, qc (vs.map some) cs' a → ∃ (i : Nat) (m : M), i < cs.length ∧ ρ'[i]? = some (.own m) ∧ σ'[i]? = some (some (.ref a)) := fun a ⟨i, m, h1, h2⟩ => by
  rcases g i _ h1 with ⟨k1, k2⟩ | ⟨m1, m2, k1, k2, k3, k4⟩
  ·exact absurd rfl (k2 m)
  ·exact ⟨i, m2, (List.getElem?_eq_some_iff.mp k2).1, k3, by rw [slot i m1 k2]; exact h2⟩
 cases r with
 | dat d => cases hh; exact ⟨rfl, h⟩
 | new m =>
  cases hh
  obtain ⟨a, o, h1, h2, h3, h4, h5, h6⟩ := h
  refine ⟨rfl, a, o, h1, h2, h3, h4, fun z => ?_, h6⟩
  obtain ⟨i, m, _, k1, k2⟩ := up a z
  exact h5 ⟨i, m, k1, k2⟩
 | bor i =>
  obtain ⟨h1, c, h2⟩ := h
  simp only [handed, h2] at hh
  obtain ⟨w, hw, ok⟩ := p.env.cell i c h2
  rw [h1] at hw; cases hw
  cases c with
  | no => cases hh
  | dat d =>
   cases hh
   obtain ⟨y, hy, z⟩ := ok
   cases hy
   exact ⟨rfl, z⟩
  | own m =>
   obtain ⟨hi, rfl⟩ := vc hh
   obtain ⟨a, o, q1, q2, q3, q4⟩ := ok
   cases q1
   refine ⟨rfl, a, o, rfl, q2, q3, q4, fun z => ?_, ?_⟩
   ·obtain ⟨j, m', k0, k1, k2⟩ := up a z
    have := p.env.inj i j m m' a h2 k1 h1 k2
    omega
   ·rcases p.own a ⟨i, m, h2, h1⟩ with z | z
    ·obtain ⟨j, m', k1, k2⟩ := wax z
     obtain ⟨m2, k3, _, _⟩ := vay hm j m' k1
     have hj : j < cs.length := (List.getElem?_eq_some_iff.mp k1).1
     have := p.env.inj i j m m2 a h2 k3 h1 (by rw [slot j m' k1]; exact k2)
     omega
    ·exact z
theorem fn_ok {P : Program} {w : World} {mg : Str → Option Value} {base : Heap} {x qual : Str} {st : Stmt} {f : Addr} {fd : FuncData} {N ps : List Str} {k : Nat} {n : Nat} {body : PL.P Fl} (F : Fun K x qual st f fd) (S : FnScope N ps (defScope st)) (hn : ps.length = n) (hN : n ≤ N.length)
  (hbody : ∀ (cdv : Value) (A : Around) (outer : List PySem.Env) (s : Shared) (H : Hp) (E : XK), Room k (A.deeper (PyProof.Rows.envOfC qual (defScope st) s.heap.objs.size f cdv)) →
   ∃ t, PSs (cxOf (L2.CX P w) P w K mg base N qual (defScope st) f cdv A outer s H E) (defBody st) t ∧ SdS K (fun cls d _ H => E cls d H) fx t body) :
  FnOk P w K mg base (L2.CX P w) (k + 1) f fd ps (spF K n (runF fx N.length body)) := by
 refine F.okX S (fun vs H Q E h => by rw [hn]; exact h.1) fun cdv A outer s H vs Q E hr h => ?_
 obtain ⟨t, ht, hs⟩ := hbody cdv A outer s H E hr
 refine ⟨t, ht, ?_⟩
 obtain ⟨hl, C, cs, out, e, ho, hok, hex⟩ := h
 have hlen : vs.length ≤ N.length := by rw [hl]; exact hN
 have e0 := EnvOk.begin (N := N) hlen e
 unfold runF at ho
 cases q : body (cs ++ List.replicate (N.length - cs.length) .no) with
 | none => rw [q] at ho; cases ho
 | some o =>
  rw [q] at ho
  refine hs (L2.start N vs) C H _ o _ e0 q ?_
  cases o with
  | ex x r =>
   dsimp only at ho
   cases z : merge fx 0 cs r with
   | none => rw [z] at ho; cases ho
   | some cs' =>
    rw [z] at ho; cases ho
    exact fun d σ' C' H' p k => hex x cs' rfl d C' H' (Post.finish e p z) k
  | ok fl r =>
   cases fl with
   | next =>
    dsimp only at ho
    cases z : merge fx 0 cs r with
    | none => rw [z] at ho; cases ho
    | some cs' =>
     rw [z] at ho; cases ho
     exact fun σ' C' H' p => (hok _ cs' rfl).2 .non C' H' (Post.finish e p z) (show Is K C' (.s .non) .non from is_s)
   | brk => cases ho
   | cont => cases ho
   | ret v =>
    dsimp only at ho
    cases y : handed cs.length r v with
    | none => rw [y] at ho; cases ho
    | some r' =>
     rw [y] at ho
     dsimp only at ho
     cases z : merge fx 0 cs r with
     | none => rw [z] at ho; cases ho
     | some cs' =>
      rw [z] at ho; cases ho
      exact fun u σ' C' H' p k => (hok r' cs' rfl).2 u C' H' (Post.finish e p z) (VOk.finish e p z k y).2
end
abbrev Arg := Sum D Nat
def ArgOk (K : PySem.W.Frag) (C : Hp) (σ : Sl) : List Arg → List V → Prop
 | [], vs => vs = []
 | .inl d :: as, vs => ∃ v r, vs = v :: r ∧ Is K C d v ∧ ArgOk K C σ as r
 | .inr i :: as, vs => ∃ v r, vs = v :: r ∧ σ[i]? = some (some v) ∧ ArgOk K C σ as r
theorem ArgOk.mono {K : PySem.W.Frag} {C C' : Hp} {σ : Sl} (e : Ex C C') : ∀ {as : List Arg} {vs : List V}, ArgOk K C σ as vs → ArgOk K C' σ as vs
 | [], vs, h => h
 | .inl d :: as, vs, h => by
  obtain ⟨v, r, h1, h2, h3⟩ := h
  exact ⟨v, r, h1, Is.mono e d v h2, ArgOk.mono e h3⟩
 | .inr i :: as, vs, h => by
  obtain ⟨v, r, h1, h2, h3⟩ := h
  exact ⟨v, r, h1, h2, ArgOk.mono e h3⟩
def ARel (K : PySem.W.Frag) (_ : Hp) : Rel (List V) (List Arg) := fun C _ σ _ vs as => ArgOk K C σ as vs
def uNil : P (List Arg) := P.ret []
def uD (f : P Rv) (g : P (List Arg)) : P (List Arg) := (xt f).bind fun d => g.bind fun as => P.ret (.inl d :: as)
def uM (i : Nat) (g : P (List Arg)) : P (List Arg) := (ownS i).bind fun _ => g.bind fun as => P.ret (.inr i :: as)
where ownS (i : Nat) : P Unit := fun ρ => match ρ[i]? with
 | some (.own _) => some (.ok () ρ)
 | _ => none
def cellsOf (ρ : En) : List Arg → Option (List Cell)
 | [] => some []
 | .inl d :: as => match cellsOf ρ as with
  | some cs => some (.dat d :: cs)
  | none => none
 | .inr i :: as => match ρ[i]? with
  | some (.own m) => (match cellsOf ρ as with
   | some cs => some (.own m :: cs)
   | none => none)
  | _ => none
def slotsOf : List Arg → List Nat
 | [] => []
 | .inl _ :: as => slotsOf as
 | .inr i :: as => i :: slotsOf as
def jl (ρ : En) : List Arg → List Cell → En
 | .inl _ :: as, _ :: cs => jl ρ as cs
 | .inr i :: as, c :: cs => (jl ρ as cs).set i c
 | _, _ => ρ
def yam (n : Nat) (F : P Rv) (as : List Arg) : P Rv := fun ρ => if (slotsOf as).Nodup ∧ as.length = n then (match cellsOf ρ as with
 | none => none
 | some cs => match F cs with
  | none => none
  | some (.ok r cs') => some (.ok r (jl ρ as cs'))
  | some (.ex e cs') => some (.ex e (jl ρ as cs'))) else none
def zk (n : Nat) (F : P Rv) (fs : P (List Arg)) : P Rv := fs.bind fun as => yam n F as
section
variable {K : PySem.W.Frag} {W : WX}
theorem su_nil : Sd K W (ARel K) tNil uNil := fun σ C H ρ e => At.ret (R := ARel K H) (v := []) e rfl
theorem su_d {ta : TE} {tr : TA} {f : P Rv} {g : P (List Arg)} (ha : Sd K W (VRel K) ta f) (hr : Sd K W (ARel K) tr g) : Sd K W (ARel K) (tCons ta tr) (uD f g) := by
 intro σ C H ρ e
 show At K W (ARel K H) σ C H ρ (fun H Q => ta σ H fun x H1 => tr σ H1 fun xs H2 => Q (x :: xs) H2) (jf (xt f ρ) fun d => g.bind fun ds => P.ret (.inl d :: ds))
 refine At.bind (tk := fun x H1 Q => tr σ H1 fun xs H2 => Q (x :: xs) H2) (zw ha σ C H ρ e) fun d ρ1 x C1 H1 p1 r1 => ?_
 refine At.bind (tk := fun xs H2 Q => Q (x :: xs) H2) (hr σ C1 H1 ρ1 p1.env) fun ds ρ2 vs C2 H2 p2 r2 => ?_
 exact At.ret (R := ARel K H) (v := x :: vs) p2.env ⟨x, vs, rfl, Is.mono p2.step.core d x r1, r2⟩
theorem su_m {i : Nat} {tr : TA} {g : P (List Arg)} (hr : Sd K W (ARel K) tr g) : Sd K W (ARel K) (tCons (tVar i) tr) (uM i g) := by
 intro σ C H ρ e
 unfold uM P.bind uM.ownS
 cases q : ρ[i]? with
 | none => exact At.nil
 | some c =>
  cases c with
  | no => exact At.nil
  | dat d => exact At.nil
  | own m =>
   obtain ⟨a, o, h1, h2, h3, h4⟩ := xaf e q
   refine At.imp (t := fun H Q => tr σ H fun xs H2 => Q (.ref a :: xs) H2) ?_ fun Q h => ⟨.ref a, h1, h⟩
   refine At.bind (tk := fun xs H2 Q => Q (.ref a :: xs) H2) (hr σ C H ρ e) fun ds ρ2 vs C2 H2 p2 r2 => ?_
   exact At.ret (R := ARel K H) (v := .ref a :: vs) p2.env ⟨_, vs, rfl, h1, r2⟩
theorem kz {σ : Sl} {C : Hp} {ρ : En} : ∀ {as : List Arg} {vs : List V} {cs : List Cell}, ArgOk K C σ as vs → cellsOf ρ as = some cs → cs.length = vs.length ∧
  ∀ (k : Nat) (c : Cell), cs[k]? = some c → (∃ d v, c = .dat d ∧ vs[k]? = some v ∧ Is K C d v) ∨ ∃ i m v, c = .own m ∧ ρ[i]? = some (.own m) ∧ σ[i]? = some (some v) ∧ vs[k]? = some v ∧ as[k]? = some (.inr i)
 | [], vs, cs, h, hc => by cases hc; cases h; exact ⟨rfl, fun k c z => by simp at z⟩
 | .inl d :: as, vs, cs, h, hc => by
  obtain ⟨v, r, rfl, h2, h3⟩ := h
  simp only [cellsOf] at hc
  cases q : cellsOf ρ as with
  | none => rw [q] at hc; cases hc
  | some cs' =>
   rw [q] at hc; cases hc
   obtain ⟨l, g⟩ := kz h3 q
   refine ⟨by rw [List.length_cons, List.length_cons, l], fun k c z => ?_⟩
   cases k with
   | zero => exact .inl ⟨d, v, by simpa using z.symm, by simp, h2⟩
   | succ k =>
    rcases g k c (by simpa using z) with ⟨d', v', k1, k2, k3⟩ | ⟨i, m, v', k1, k2, k3, k4, k5⟩
    ·exact .inl ⟨d', v', k1, by simpa using k2, k3⟩
    ·exact .inr ⟨i, m, v', k1, k2, k3, by simpa using k4, by simpa using k5⟩
 | .inr i :: as, vs, cs, h, hc => by
  obtain ⟨v, r, rfl, h2, h3⟩ := h
  simp only [cellsOf] at hc
  cases q0 : ρ[i]? with
  | none => simp only [q0] at hc; cases hc
  | some c0 =>
   cases c0 with
   | no => simp only [q0] at hc; cases hc
   | dat d => simp only [q0] at hc; cases hc
   | own m =>
    simp only [q0] at hc
    cases q : cellsOf ρ as with
    | none => simp only [q] at hc; cases hc
    | some cs' =>
     simp only [q] at hc; cases hc
     obtain ⟨l, g⟩ := kz h3 q
     refine ⟨by rw [List.length_cons, List.length_cons, l], fun k c z => ?_⟩
     cases k with
     | zero => exact .inr ⟨i, m, v, by simpa using z.symm, q0, h2, by simp, by simp⟩
     | succ k =>
      rcases g k c (by simpa using z) with ⟨d', v', k1, k2, k3⟩ | ⟨i, m, v', k1, k2, k3, k4, k5⟩
      ·exact .inl ⟨d', v', k1, by simpa using k2, k3⟩
      ·exact .inr ⟨i, m, v', k1, k2, k3, by simpa using k4, by simpa using k5⟩
theorem slots_inj : ∀ {as : List Arg}, (slotsOf as).Nodup → ∀ {j k i : Nat}, as[j]? = some (.inr i) → as[k]? = some (.inr i) → j = k
 | [], _, j, k, i, h, _ => by simp at h
 | .inl d :: as, hn, 0, k, i, h, _ => by simp at h
 | .inl d :: as, hn, j + 1, 0, i, _, h => by simp at h
 | .inl d :: as, hn, j + 1, k + 1, i, h1, h2 => by have z := slots_inj (as := as) hn (j := j) (k := k) (i := i) (by simpa using h1) (by simpa using h2); omega
 | .inr i0 :: as, hn, 0, 0, i, h1, h2 => rfl
 | .inr i0 :: as, hn, 0, k + 1, i, h1, h2 => by
  simp at h1; subst h1
  exact absurd (slots_mem (by simpa using h2)) (List.nodup_cons.mp hn).1
 | .inr i0 :: as, hn, j + 1, 0, i, h1, h2 => by
  simp at h2; subst h2
  exact absurd (slots_mem (by simpa using h1)) (List.nodup_cons.mp hn).1
 | .inr i0 :: as, hn, j + 1, k + 1, i, h1, h2 => by have z := slots_inj (as := as) (List.nodup_cons.mp hn).2 (j := j) (k := k) (i := i) (by simpa using h1) (by simpa using h2); omega
where slots_mem : ∀ {as : List Arg} {k i : Nat}, as[k]? = some (.inr i) → i ∈ slotsOf as
 | [], k, i, h => by simp at h
 | .inl d :: as, 0, i, h => by simp at h
 | .inl d :: as, k + 1, i, h => slots_mem (as := as) (by simpa using h)
 | .inr i0 :: as, 0, i, h => by simp at h; subst h; exact List.mem_cons_self
 | .inr i0 :: as, k + 1, i, h => List.mem_cons_of_mem _ (slots_mem (as := as) (by simpa using h))
theorem ya1 (ρ : En) : ∀ (as : List Arg) (cs : List Cell), (jl ρ as cs).length = ρ.length
 | [], cs => by simp [jl]
 | .inl _ :: as, [] => by simp [jl]
 | .inr _ :: as, [] => by simp [jl]
 | .inl _ :: as, _ :: cs => by simp only [jl]; exact ya1 ρ as cs
 | .inr i :: as, c :: cs => by simp only [jl]; rw [List.length_set]; exact ya1 ρ as cs
theorem wa1 (ρ : En) : ∀ (as : List Arg) (cs : List Cell), as.length = cs.length → (slotsOf as).Nodup → ∀ (i : Nat) (c : Cell), (jl ρ as cs)[i]? = some c →
  (ρ[i]? = some c ∧ i ∉ slotsOf as) ∨ ∃ (k : Nat), as[k]? = some (.inr i) ∧ cs[k]? = some c
 | [], [], _, hn, i, c, h => .inl ⟨h, by simp [slotsOf]⟩
 | .inl d :: as, c0 :: cs, hl, hn, i, c, h => by
  simp only [jl] at h
  rcases wa1 ρ as cs (by simpa using hl) hn i c h with z | ⟨k, k1, k2⟩
  ·exact .inl z
  ·exact .inr ⟨k + 1, by simpa using k1, by simpa using k2⟩
 | .inr j :: as, c0 :: cs, hl, hn, i, c, h => by
  simp only [jl] at h
  have hn' := List.nodup_cons.mp (show (j :: slotsOf as).Nodup from hn)
  by_cases hj : j = i
  ·subst hj
   have hlt : j < (jl ρ as cs).length := by
    have := (List.getElem?_eq_some_iff.mp h).1
    rw [List.length_set] at this; exact this
   rw [List.getElem?_set_self hlt] at h
   exact .inr ⟨0, by simp, by simpa using h⟩
  ·rw [List.getElem?_set_ne hj] at h
   rcases wa1 ρ as cs (by simpa using hl) hn'.2 i c h with ⟨z1, z2⟩ | ⟨k, k1, k2⟩
   ·exact .inl ⟨z1, by show i ∉ j :: slotsOf as; simp only [List.mem_cons, not_or]; exact ⟨fun z => hj z.symm, z2⟩⟩
   ·exact .inr ⟨k + 1, by simpa using k1, by simpa using k2⟩
theorem ArgOk.len {σ : Sl} {C : Hp} : ∀ {as : List Arg} {vs : List V}, ArgOk K C σ as vs → as.length = vs.length
 | [], vs, h => by cases h; rfl
 | .inl d :: as, vs, h => by
  obtain ⟨v, r, rfl, _, h3⟩ := h
  rw [List.length_cons, List.length_cons, ArgOk.len h3]
 | .inr i :: as, vs, h => by
  obtain ⟨v, r, rfl, _, h3⟩ := h
  rw [List.length_cons, List.length_cons, ArgOk.len h3]
theorem ArgOk.at {σ : Sl} {C : Hp} : ∀ {as : List Arg} {vs : List V}, ArgOk K C σ as vs → ∀ {k i : Nat}, as[k]? = some (.inr i) → ∃ v, vs[k]? = some v ∧ σ[i]? = some (some v)
 | [], vs, h, k, i, e => by simp at e
 | .inl d :: as, vs, h, 0, i, e => by simp at e
 | .inl d :: as, vs, h, k + 1, i, e => by
  obtain ⟨v, r, rfl, _, h3⟩ := h
  obtain ⟨w, h4, h5⟩ := ArgOk.at h3 (k := k) (i := i) (by simpa using e)
  exact ⟨w, by simpa using h4, h5⟩
 | .inr j :: as, vs, h, 0, i, e => by
  obtain ⟨v, r, rfl, h2, h3⟩ := h
  simp at e; subst e
  exact ⟨v, by simp, h2⟩
 | .inr j :: as, vs, h, k + 1, i, e => by
  obtain ⟨v, r, rfl, _, h3⟩ := h
  obtain ⟨w, h4, h5⟩ := ArgOk.at h3 (k := k) (i := i) (by simpa using e)
  exact ⟨w, by simpa using h4, h5⟩
theorem EnvOk.args {σ : Sl} {C H : Hp} {ρ : En} {as : List Arg} {vs : List V} {cs : List Cell} (e : EnvOk K C H σ ρ) (ha : ArgOk K C σ as vs) (hn : (slotsOf as).Nodup) (hc : cellsOf ρ as = some cs) : EnvOk K C H (vs.map some) cs := by
 obtain ⟨l, g⟩ := kz ha hc
 refine ⟨by rw [List.length_map, l], e.ext, fun k c h => ?_, fun j k m n a h1 h2 h3 h4 => ?_, e.tab⟩
 ·rcases g k c h with ⟨d, v, rfl, k1, k2⟩ | ⟨i, m, v, rfl, k1, k2, k3, k4⟩
  ·exact ⟨some v, by rw [List.getElem?_map, k1]; rfl, v, rfl, k2⟩
  ·obtain ⟨w, hw, ok⟩ := e.cell i _ k1
   rw [k2] at hw; cases hw
   exact ⟨some v, by rw [List.getElem?_map, k3]; rfl, ok⟩
 ·rcases g j _ h1 with ⟨d, v, z, _⟩ | ⟨i1, m1, v1, q1, q2, q3, q4, q5⟩
  ·cases z
  ·rcases g k _ h2 with ⟨d, v, z, _⟩ | ⟨i2, m2, v2, r1, r2, r3, r4, r5⟩
   ·cases z
   ·rw [List.getElem?_map, q4] at h3
    rw [List.getElem?_map, r4] at h4
    have e1 : v1 = .ref a := Option.some.inj (Option.some.inj h3)
    have e2 : v2 = .ref a := Option.some.inj (Option.some.inj h4)
    subst e1 e2
    have := e.inj i1 i2 m1 m2 a q2 r2 q3 r3
    subst this
    exact slots_inj hn q5 r5
theorem qa5 {σ : Sl} {C H : Hp} {ρ : En} {as : List Arg} {vs : List V} {cs : List Cell} (ha : ArgOk K C σ as vs) (hc : cellsOf ρ as = some cs) {a : Addr} (h : qc (vs.map some) cs a) : ∃ (i : Nat) (m : M) (k : Nat), ρ[i]? = some (.own m) ∧ σ[i]? = some (some (.ref a)) ∧ as[k]? = some (.inr i) := by
 obtain ⟨l, g⟩ := kz ha hc
 obtain ⟨k, m, h1, h2⟩ := h
 rcases g k _ h1 with ⟨d, v, z, _⟩ | ⟨i, m1, v1, q1, q2, q3, q4, q5⟩
 ·cases z
 ·rw [List.getElem?_map, q4] at h2
  have e1 : v1 = .ref a := Option.some.inj (Option.some.inj h2)
  subst e1
  exact ⟨i, m1, k, q2, q3, q5⟩
theorem Post.back {σ : Sl} {C H C' H' : Hp} {ρ : En} {as : List Arg} {vs : List V} {cs cs' : List Cell} (e : EnvOk K C H σ ρ) (ha : ArgOk K C σ as vs) (hn : (slotsOf as).Nodup) (hc : cellsOf ρ as = some cs)
  (p : Post K (vs.map some) C H cs C' H' cs') : Post K σ C H ρ C' H' (jl ρ as cs') := by
 obtain ⟨l, g⟩ := kz ha hc
 have sub : ∀ a, qc (vs.map some) cs a → qc σ ρ a := fun a h => by
  obtain ⟨i, m, k, h1, h2, _⟩ := qa5 (H := H) ha hc h
  exact ⟨i, m, h1, h2⟩
 have l' : as.length = cs'.length := by
  have := p.env.len
  rw [List.length_map] at this
  rw [← this]
  exact ha.len
 have st : Step C H C' H' (qc σ ρ) := p.step.weak fun a z => .inl (sub a z)
 have bg := wa1 ρ as cs' l' hn
 have up : ∀ (i k : Nat) (c : Cell), as[k]? = some (.inr i) → cs'[k]? = some c → ∃ v, σ[i]? = some (some v) ∧ vs[k]? = some v ∧ CellOk K C' H' (some v) c := fun i k c h1 h2 => by
  obtain ⟨w, hw, ok⟩ := p.env.cell k c h2
  obtain ⟨v, h3, h4⟩ := ha.at h1
  rw [List.getElem?_map, h3] at hw
  have e1 : some v = w := Option.some.inj hw
  subst e1
  exact ⟨v, h4, h3, ok⟩
 -- an own slot that is no argument
 have apart : ∀ (i : Nat) (m : M) (a : Addr), ρ[i]? = some (.own m) → i ∉ slotsOf as → σ[i]? = some (some (.ref a)) → ¬ qc (vs.map some) cs a := fun i m a h1 h2 h3 h => by
  obtain ⟨j, n, k, k1, k2, k3⟩ := qa5 (H := H) ha hc h
  have := e.inj i j m n a h1 k1 h3 k2
  subst this
  exact h2 (slots_inj.slots_mem k3)
 refine ⟨st, fun a ⟨i, m, h1, h2⟩ => ?_, ⟨by rw [ya1]; exact e.len, p.env.ext, fun i c h => ?_, fun i j m n a h1 h2 h3 h4 => ?_, p.env.tab⟩⟩
 ·rcases bg i _ h1 with ⟨k1, _⟩ | ⟨k, k1, k2⟩
  ·exact ⟨i, m, k1, h2⟩
  ·obtain ⟨v, k3, k4, ok⟩ := up i k _ k1 k2
   rw [h2] at k3
   have e1 : v = .ref a := (Option.some.inj (Option.some.inj k3)).symm
   subst e1
   exact sub a (p.own a ⟨k, m, k2, by rw [List.getElem?_map, k4]; rfl⟩)
 ·rcases bg i c h with ⟨k1, k2⟩ | ⟨k, k1, k2⟩
  ·obtain ⟨v, hv, ok⟩ := e.cell i c k1
   refine ⟨v, hv, ?_⟩
   cases c with
   | no => trivial
   | dat d => obtain ⟨y, hy, z⟩ := ok; exact ⟨y, hy, Is.mono st.core d y z⟩
   | own m =>
    obtain ⟨q, o, q1, q2, q3, q4⟩ := ok
    have ap := apart i m q k1 k2 (by rw [hv, q1])
    refine ⟨q, o, q1, ?_, p.step.keep q o q3 q4.nx.1 ap, q4.mono st.core⟩
    cases z : C' q with
    | none => rfl
    | some u =>
     rcases p.step.new q q2 (by rw [z]; exact fun z => by cases z) with z | z
     ·rw [q3] at z; cases z
     ·exact absurd z ap
  ·obtain ⟨v, k3, k4, ok⟩ := up i k c k1 k2
   exact ⟨some v, k3, ok⟩
 ·have cls : ∀ (i : Nat) (m : M), (jl ρ as cs')[i]? = some (.own m) → σ[i]? = some (some (.ref a)) → (∃ m', ρ[i]? = some (.own m')) := fun i m z1 z2 => by
   rcases bg i _ z1 with ⟨k1, _⟩ | ⟨k, k1, k2⟩
   ·exact ⟨m, k1⟩
   ·obtain ⟨v, k3, k4, ok⟩ := up i k _ k1 k2
    rw [z2] at k3
    have e1 : v = .ref a := (Option.some.inj (Option.some.inj k3)).symm
    subst e1
    obtain ⟨k', m', y1, y2⟩ := p.own a ⟨k, m, k2, by rw [List.getElem?_map, k4]; rfl⟩
    rcases g k' _ y1 with ⟨d, v, z, _⟩ | ⟨i2, m2, v2, r1, r2, r3, r4, r5⟩
    ·cases z
    ·rw [List.getElem?_map, r4] at y2
     have e2 : v2 = .ref a := Option.some.inj (Option.some.inj y2)
     subst e2
     have il : i < ρ.length := by rw [← e.len]; exact (List.getElem?_eq_some_iff.mp z2).1
     -- the slot i is an argument's, so its cell is own
     have : ∃ m', ρ[i]? = some (.own m') := by
      have hk : k < cs.length := by
       rw [l]
       exact (List.getElem?_eq_some_iff.mp k4).1
      rcases g k _ (List.getElem?_eq_getElem hk) with ⟨d, v, z, z3, z4⟩ | ⟨i3, m3, v3, s1, s2, s3, s4, s5⟩
      ·exfalso
       exact noinl hc k1 (by rw [List.getElem?_eq_getElem hk, z])
      ·rw [k1] at s5
       cases s5
       exact ⟨m3, s2⟩
     exact this
  obtain ⟨m', z1⟩ := cls i m h1 h3
  obtain ⟨n', z2⟩ := cls j n h2 h4
  exact e.inj i j m' n' a z1 z2 h3 h4
where noinl : ∀ {ρ : En} {as : List Arg} {cs : List Cell} {k i : Nat} {d : D}, cellsOf ρ as = some cs → as[k]? = some (.inr i) → cs[k]? = some (.dat d) → False
 | ρ, [], cs, k, i, d, h, h1, h2 => by simp at h1
 | ρ, .inl x :: as, cs, k, i, d, h, h1, h2 => by
  simp only [cellsOf] at h
  cases q : cellsOf ρ as with
  | none => rw [q] at h; cases h
  | some cs' =>
   rw [q] at h; cases h
   cases k with
   | zero => simp at h1
   | succ k => exact noinl q (by simpa using h1) (by simpa using h2)
 | ρ, .inr x :: as, cs, k, i, d, h, h1, h2 => by
  simp only [cellsOf] at h
  cases q0 : ρ[x]? with
  | none => simp only [q0] at h; cases h
  | some c0 =>
   cases c0 with
   | no => simp only [q0] at h; cases h
   | dat d => simp only [q0] at h; cases h
   | own m =>
    simp only [q0] at h
    cases q : cellsOf ρ as with
    | none => simp only [q] at h; cases h
    | some cs' =>
     simp only [q] at h; cases h
     cases k with
     | zero => simp at h2
     | succ k => exact noinl q (by simpa using h1) (by simpa using h2)
theorem jbr {σ : Sl} {C H : Hp} {ρ : En} {n : Nat} {F : P Rv} {as : List Arg} {vs : List V} {H0 : Hp} (e : EnvOk K C H σ ρ) (ha : ArgOk K C σ as vs) (hd : ∀ b, H b = none → H0 b = none)
  (hF : ∀ cs r cs', F cs = some (.ok r cs') → rvD r = true) :
  At K W (VRel K H0) σ C H ρ (fun H Q => spF K n F vs H Q (fun cls d H => W cls d σ H)) (yam n F as ρ) := by
 unfold yam
 by_cases hnd : (slotsOf as).Nodup ∧ as.length = n
 ·rw [if_pos hnd]
  obtain ⟨hnd, hn⟩ := hnd
  cases q : cellsOf ρ as with
  | none => exact At.nil
  | some cs =>
   dsimp only
   cases q2 : F cs with
   | none => exact At.nil
   | some out =>
    have ea := EnvOk.args e ha hnd q
    intro out' Q ho hok hex
    refine ⟨by rw [← hn]; exact ha.len.symm, C, cs, out, ea, q2, fun r cs' z => ?_, fun x cs' z d C' H' p k => ?_⟩
    ·subst z
     cases ho
     have hr := hF _ _ _ q2
     refine ⟨hr, fun v C' H' p k => ?_⟩
     have pb := Post.back e ha hnd q p
     refine hok r _ rfl v C' H' pb ?_
     cases r with
     | dat d => exact k
     | bor i => cases hr
     | new m =>
      obtain ⟨a, o, k1, k2, k3, k4, k5, k6⟩ := k
      refine ⟨a, o, k1, k2, k3, k4, fun z => ?_, hd a k6⟩
      obtain ⟨i, m', z1, z2⟩ := pb.own a z
      obtain ⟨b, o', y1, y2, y3, y4⟩ := xaf e z1
      rw [z2] at y1; cases y1
      rw [k6] at y3; cases y3
    ·subst z
     cases ho
     exact hex x _ rfl d C' H' (Post.back e ha hnd q p) k
 ·rw [if_neg hnd]; exact At.nil
theorem runF_rvD {fx : List Nat} {N : Nat} {body : P Fl} : ∀ cs r cs', runF fx N body cs = some (.ok r cs') → rvD r = true := by
 intro cs r cs' h
 unfold runF at h
 split at h
 ·rename_i r0 ρ _
  cases q : handed cs.length ρ r0 with
  | none => rw [q] at h; cases h
  | some r' =>
   rw [q] at h
   dsimp only at h
   cases q2 : merge fx 0 cs ρ with
   | none => rw [q2] at h; cases h
   | some cs2 =>
    rw [q2] at h
    cases h
    cases r0 with
    | dat d => cases q; rfl
    | new m => cases q; rfl
    | bor i =>
     unfold handed at q
     split at q
     ·rename_i z; cases z
     ·rename_i z; cases z
     ·split at q
      ·cases q; rfl
      ·split at q
       ·cases q; rfl
       ·cases q
      ·cases q
 ·rename_i ρ _
  cases q2 : merge fx 0 cs ρ with
  | none => rw [q2] at h; cases h
  | some cs2 => rw [q2] at h; cases h; rfl
 ·rename_i ρ _
  cases q2 : merge fx 0 cs ρ with
  | none => rw [q2] at h; cases h
  | some cs2 => rw [q2] at h; cases h
 ·cases h
theorem sd_call {n : Nat} {F : P Rv} {t : TA} {fs : P (List Arg)} (hF : ∀ cs r cs', F cs = some (.ok r cs') → rvD r = true) (hs : Sd K W (ARel K) t fs) :
  Sd K W (VRel K) (tCallS (spF K n F) (WE W) t) (zk n F fs) := by
 intro σ C H ρ e
 show At K W (VRel K H) σ C H ρ (fun H Q => t σ H fun vs H1 => spF K n F vs H1 Q (fun cls d H => W cls d σ H)) (jf (fs ρ) fun as => yam n F as)
 refine At.bind (tk := fun (vs : List V) (H1 : Hp) (Q : VK) => spF K n F vs H1 Q (fun cls d H => W cls d σ H)) (hs σ C H ρ e) fun as ρ1 vs C1 H1 p1 r1 => ?_
 exact jbr p1.env r1 p1.step.dom hF
end
end PL
namespace PL
open PySem L2
def asI (r : Rv) : P (Option Int) := fun ρ => match peek ρ r with
 | some (.s (.int i)) => some (.ok (some i) ρ)
 | _ => none
def zNo : P (Option Int) := P.ret none
def zAt (f : P Rv) : P (Option Int) := f.bind asI
def fSl (fo : P Rv) (lo hi : P (Option Int)) : P Rv := fo.bind fun ro => lo.bind fun l => hi.bind fun h => pk1 ro fun d => P.of (slD d l h)
section
variable {K : PySem.W.Frag} {W : WX} {te : TE} {tl tu : TO} {f : P Rv} {lo hi : P (Option Int)}
theorem sz_no : Sd K W IRel tNoPart zNo := fun σ C H ρ e => At.ret (R := IRel H) (v := none) e rfl
theorem sz_at (hf : Sd K W (VRel K) te f) : Sd K W IRel (tPart te) (zAt f) := by
 intro σ C H ρ e
 show At K W (IRel H) σ C H ρ (fun H Q => te σ H fun x H1 => ∃ i, x = .int i ∧ Q (some i) H1) (jf (f ρ) asI)
 refine At.bind (tk := fun (x : V) (H1 : Hp) (Q : Option Int → Hp → Prop) => ∃ i, x = .int i ∧ Q (some i) H1) (hf σ C H ρ e) fun r ρ1 x C1 H1 p1 r1 => ?_
 unfold asI
 cases q : peek ρ1 r with
 | none => exact At.nil
 | some d =>
  cases d with
  | s y =>
   cases y with
   | int i => exact At.imp (At.ret (R := IRel H) (v := some i) p1.env rfl) fun Q h => ⟨i, pk_s.mp (wg p1.env r1 q), h⟩
   | _ => exact At.nil
  | _ => exact At.nil
theorem sd_sl (hf : Sd K W (VRel K) te f) (hl : Sd K W IRel tl lo) (hh : Sd K W IRel tu hi) : Sd K W (VRel K) (tSl (rSlX K) te tl tu) (fSl f lo hi) := by
 intro σ C H ρ e
 show At K W (VRel K H) σ C H ρ (fun H Q => te σ H fun x H1 => tl σ H1 fun l H2 => tu σ H2 fun u H3 => rSlX K x l u H3 Q) (jf (f ρ) fun ro => lo.bind fun l => hi.bind fun h => pk1 ro fun d => P.of (slD d l h))
 refine At.bind (tk := fun (x : V) (H1 : Hp) (Q : VK) => tl σ H1 fun l H2 => tu σ H2 fun u H3 => rSlX K x l u H3 Q) (hf σ C H ρ e) fun ro ρ1 x C1 H1 p1 r1 => ?_
 refine At.bind (tk := fun (l : Option Int) (H2 : Hp) (Q : VK) => tu σ H2 fun u H3 => rSlX K x l u H3 Q) (hl σ C1 H1 ρ1 p1.env) fun l ρ2 vl C2 H2 p2 r2 => ?_
 refine At.bind (tk := fun (u : Option Int) (H3 : Hp) (Q : VK) => rSlX K x vl u H3 Q) (hh σ C2 H2 ρ2 p2.env) fun u ρ3 vu C3 H3 p3 r3 => ?_
 have r2 : vl = l := r2
 have r3 : vu = u := r3
 subst r2 r3
 have r1' := VOk.mono (VOk.mono r1 p1.env p2) p2.env p3
 refine At.pk1 fun d q1 => At.pof fun rv q3 => ?_
 exact At.giv p3.env (fun b h => p1.step.dom b (p2.step.dom b (p3.step.dom b h))) fun Q g => ok_sl p3.env.ext q3 (wg p3.env r1' q1) g
end
def py (d : D) : PyData := (toPy d).getD .none
def shp (d : D) : Bool := match toPy d with
 | some a => SeqAt.shaped a
 | none => false
def dle (x y : D) : Bool := PySem.W.dataLe false py x y
theorem zan {d : D} (h : shp d = true) : toPy d = some (py d) ∧ SeqAt.shaped (py d) = true := by
 unfold shp at h
 unfold py
 cases q : toPy d with
 | none => rw [q] at h; cases h
 | some a => rw [q] at h; exact ⟨rfl, h⟩
theorem wbi {a : PyData} (h : SeqAt.shaped a = true) : a.depth ≤ 64 := by
 have h : (a.canLay0 && decide (a.depth ≤ 64)) = true := h
 exact of_decide_eq_true (Bool.and_eq_true_iff.mp h).2
def ybe : PyData → Bool
 | .none => true
 | _ => false
theorem qbq {d : PyData} (h : ybe d = false) : d ≠ .none := by
 rintro rfl
 cases h
def rLtD (K : PySem.W.Frag) : R2 := fun x y H Q => ∃ a b, Dp K H x a ∧ Dp K H y b ∧ SeqAt.shaped a = true ∧ PySem.W.alike a b = true ∧ a ≠ .none ∧ Q (.bl (PySem.W.dataLt a b)) H
theorem op_ltDt {X : Cx} (hu : X.A.units + 65 < cLine) : OpR X (compareOp .Lt) (rLtD X.K) := by
 intro pins s σ H x y v u Q I rx ry h
 obtain ⟨a, b, hx, hy, sa, hal, hn, q⟩ := h
 obtain ⟨as, r1⟩ := Dp.reads I a x v hx rx
 obtain ⟨bs, r2⟩ := Dp.reads I b y u hy ry
 have := wbi sa
 exact PySem.W.rcLt_alike a b X.A s v u as bs r1 r2 hal hn (by omega) X.prog X.w _ _ ⟨.bl _, H, I, rfl, q⟩
def ltB (x y : D) : Option Bool := match toPy x with
 | none => none
 | some a => match toPy y with
  | none => none
  | some b => if (SeqAt.shaped a && PySem.W.alike a b && !ybe a) = true then some (PySem.W.dataLt a b) else none
def ltXD : D → D → Option Rv
 | .s (.int i), .s (.int j) => some (rvB (decide (i < j)))
 | .s (.str a), .s (.str b) => some (rvB (strLt a b))
 | x, y => match ltB x y with
  | some b => some (rvB b)
  | none => none
def rLtXX (K : PySem.W.Frag) : R2 := fun x y H Q => rLtX x y H Q ∨ rLtD K x y H Q
theorem op_ltXX {X : Cx} (hu : X.A.units + 65 < cLine) : OpR X (compareOp .Lt) (rLtXX X.K) := op_ltX.or (op_ltDt hu)
theorem ok_ltXX {K : PySem.W.Frag} : R2Ok K (rLtXX K) ltXD := by
 intro C H e dx dy x y rv Q h hx hy g
 unfold ltXD at h
 split at h
 ·cases pk_s.mp hx; cases pk_s.mp hy; cases h
  exact .inl (.inl ⟨_, _, rfl, rfl, g.d e⟩)
 ·cases pk_s.mp hx; cases pk_s.mp hy; cases h
  exact .inl (.inr ⟨_, _, rfl, rfl, g.d e⟩)
 ·unfold ltB at h
  cases q1 : toPy dx with
  | none => rw [q1] at h; cases h
  | some a =>
   cases q2 : toPy dy with
   | none => rw [q1, q2] at h; cases h
   | some b =>
    rw [q1, q2] at h
    dsimp only at h
    by_cases hc : (SeqAt.shaped a && PySem.W.alike a b && !ybe a) = true
    ·rw [if_pos hc] at h
     cases h
     obtain ⟨h1, h2⟩ := Bool.and_eq_true_iff.mp hc
     obtain ⟨h3, h4⟩ := Bool.and_eq_true_iff.mp h1
     exact .inr ⟨a, b, qa3 e q1 hx, qa3 e q2 hy, h3, h4, qbq (by simpa using h2), g.d e⟩
    ·rw [if_neg hc] at h; cases h
abbrev EIs {α β : Type} (R : α → β → Prop) := PySem.W.EachIs R
section
variable {X : Cx}
def zaq : D → D → Option Rv := mulD
def rMulXX (K : PySem.W.Frag) : R2 := fun x y H Q => rMulX K x y H Q
theorem op_mulXX : OpR X (binaryOp .Mult) (rMulXX X.K) := op_mulX
theorem ok_mulXX {K : PySem.W.Frag} : R2Ok K (rMulXX K) zaq := ok_mul
end
end PL
namespace PL
open PySem L2
structure CtxOk {ι : Type} (X : ι → Cx) (P : Program) (w : World) (K : PySem.W.Frag) (mg : Str → Option Value) (base : Heap) (k : Nat) (W : WX) (N : List Str) (sc : Scope) : Prop where
 pP : ∀ i, (X i).prog = P
 pw : ∀ i, (X i).w = w
 pK : ∀ i, (X i).K = K
 pm : ∀ i, (X i).mg = mg
 pb : ∀ i, (X i).base = base
 room : ∀ i, Room k (X i).A
 tk : ∀ i, Takes (X i) W
 calm : ∀ i, (X i).calm = true
 pass : ∀ i, PassesOwn (model (X i).prog (X i).w) (X i).A (X i).env (X i).xe
 nN : ∀ i, (X i).N = N
 ns : ∀ i, (X i).env.scope = sc
 nd' : N.Nodup
section
variable {ι : Type}
def BE (X : ι → Cx) (K : PySem.W.Frag) (W : WX) (e : Expr) (f : P Rv) : Prop := ∃ t, (∀ i, PE (X i) e t) ∧ Sd K W (VRel K) t f
def BT (X : ι → Cx) (K : PySem.W.Frag) (W : WX) (e : Expr) (g : P Bool) : Prop := ∃ t, (∀ i, PT (X i) e t) ∧ Sd K W BRel t g
def BW (X : ι → Cx) (K : PySem.W.Frag) (W : WX) (e : Expr) (g : P Bool) : Prop := ∃ t, (∀ i, PW (X i) e t) ∧ Sd K W BRel t g
def BTs (X : ι → Cx) (K : PySem.W.Frag) (W : WX) (e : List Expr) (g : P Bool) : Prop := ∃ t, (∀ i, PTs (X i) e t) ∧ Sd K W BRel t g
def BAv (X : ι → Cx) (K : PySem.W.Frag) (W : WX) (es : List Expr) (f : P (List Rv)) : Prop := ∃ t, (∀ i, PA (X i) es t) ∧ Sd K W (vbh K) t f
def BAd (X : ι → Cx) (K : PySem.W.Frag) (W : WX) (es : List Expr) (f : P (List D)) : Prop := ∃ t, (∀ i, PA (X i) es t) ∧ Sd K W (j4 K) t f
def BAa (X : ι → Cx) (K : PySem.W.Frag) (W : WX) (es : List Expr) (f : P (List Arg)) : Prop := ∃ t, (∀ i, PA (X i) es t) ∧ Sd K W (ARel K) t f
def BO (X : ι → Cx) (K : PySem.W.Frag) (W : WX) (e : Option Expr) (f : P (Option Int)) : Prop := ∃ t, (∀ i, PO (X i) e t) ∧ Sd K W IRel t f
def BI (X : ι → Cx) (K : PySem.W.Frag) (W : WX) (tg e : Expr) (f : P (List D)) : Prop := ∃ t, (∀ i, PI (X i) tg e t) ∧ Sd K W (kaq K) t f
def BG (X : ι → Cx) (K : PySem.W.Frag) (js : List Nat) (e : Expr) (a : Tgt) : Prop := ∃ t, (∀ i, PG (X i) e t) ∧ SdG K js t a
def BGs (X : ι → Cx) (K : PySem.W.Frag) (js : List Nat) (es : List Expr) (a : List D → En → Option En) : Prop := ∃ t, (∀ i, PGs (X i) es t) ∧ SdGs K js t a
def BS (X : ι → Cx) (K : PySem.W.Frag) (W : WX) (fx : List Nat) (st : Stmt) (g : P Fl) : Prop := ∃ t, (∀ i, PS (X i) st t) ∧ SdS K W fx t g
def BSs (X : ι → Cx) (K : PySem.W.Frag) (W : WX) (fx : List Nat) (st : List Stmt) (g : P Fl) : Prop := ∃ t, (∀ i, PSs (X i) st t) ∧ SdS K W fx t g
variable {X : ι → Cx} {P : Program} {w : World} {K : PySem.W.Frag} {mg : Str → Option Value} {base : Heap} {k : Nat} {W : WX} {N : List Str} {sc : Scope}
variable {a b c e o : Expr} {es : List Expr} {pos p p2 apos tpos : Pos} {x : Str} {fa fb fc fe : PL.P Rv} {g h : PL.P Bool}
theorem CtxOk.nd (B : CtxOk X P w K mg base k W N sc) (i : ι) : (X i).N.Nodup := by rw [B.nN i]; exact B.nd'
theorem CtxOk.at_ (B : CtxOk X P w K mg base k W N sc) {n : Nat} {x : Str} (h : N[n]? = some x) (i : ι) : (X i).N[n]? = some x := by rw [B.nN i]; exact h
theorem CtxOk.vis (B : CtxOk X P w K mg base k W N sc) {x : Str} (h : Vis sc x) (i : ι) : Vis (X i).env.scope x := by rw [B.ns i]; exact h
theorem CtxOk.lo (B : CtxOk X P w K mg base k W N sc) {x : Str} (h : Loc sc x) (i : ι) : Loc (X i).env.scope x := by rw [B.ns i]; exact h
theorem CtxOk.lcl (B : CtxOk X P w K mg base k W N sc) {x : Str} (h : sc.names.lookup x = some .local) (i : ι) : (X i).env.scope.names.lookup x = some .local := by rw [B.ns i]; exact h
theorem CtxOk.gl (B : CtxOk X P w K mg base k W N sc) {x : Str} (h : sc.names.lookup x = some .globalImplicit) (i : ι) : Gl (X i) x := by
 show (X i).env.scope.names.lookup x = some .globalImplicit
 rw [B.ns i]; exact h
theorem CtxOk.u64 (B : CtxOk X P w K mg base k W N sc) (i : ι) : (X i).A.units + 67 < cLine := by have := (B.room i).un; omega
theorem qa (B : CtxOk X P w K mg base k W N sc) (n : Nat) (hN : N[n]? = some x := by rfl) (hv : Vis sc x := by first | exact Or.inl rfl | exact Or.inr (Or.inl rfl) | exact Or.inr (Or.inr rfl)) (hd : (x == ("__debug__" : Str)) = false := by decide)
  (hcd : (x == ("__classdict__" : Str)) = false := by decide) : BE X K W (.Name x pos) (fVar n) := ⟨_, fun i => pe_var (B.at_ hN i) (B.vis hv i) hd hcd, sd_var⟩
theorem wa {z : Int} {j} : BE X K W (.Constant (.int z) j pos) (fC (.s (.int z))) := ⟨_, fun i => pe_int, sd_c⟩
theorem jo {z : Str} {j} : BE X K W (.Constant (.str z) j pos) (fC (.s (.str z))) := ⟨_, fun i => pe_str, sd_c⟩
theorem va1 {z : Bool} {j} : BE X K W (.Constant (.bool z) j pos) (fC (.s (.bl z))) := ⟨_, fun i => pe_bl, sd_c⟩
theorem za1 {j} : BE X K W (.Constant .none j pos) (fC (.s .non)) := ⟨_, fun i => pe_non, sd_c⟩
theorem be_glob {v : V} {u : Value} (B : CtxOk X P w K mg base k W N sc) (hm : mg x = some u) (r : RelV v u) (hg : sc.names.lookup x = some .globalImplicit := by rfl) (hd : (x == ("__debug__" : Str)) = false := by decide) : BE X K W (.Name x pos) (fC (.s v)) :=
 ⟨_, fun i => pe_glob (B.gl hg i) (by rw [B.pm i]; exact hm) r hd, sd_c⟩
theorem qa1 {T : String} (B : CtxOk X P w K mg base k W N sc) (hm : mg x = none) (hv : bootBuiltins x = some (.type T)) (hg : sc.names.lookup x = some .globalImplicit := by rfl) (hn : x ≠ "__name__" := by decide) (hd : (x == ("__debug__" : Str)) = false := by decide) : BE X K W (.Name x pos) (fC (.s (.ty T))) :=
 ⟨_, fun i => pe_bltn (B.gl hg i) (by rw [B.pm i]; exact hm) hv (show RelV (.ty T) (.type T) from rfl) hn hd, sd_c⟩
theorem be_op {op : Operator} {r : R2} {f : D → D → Option Rv} (ho : ∀ i, OpR (X i) (binaryOp op) r) (hr : R2Ok K r f) (ha : BE X K W a fa) (hb : BE X K W b fb) : BE X K W (.BinOp a op b pos) (fOp f fa fb) := by
 obtain ⟨ta, pa, sa⟩ := ha
 obtain ⟨tb, pb, sb⟩ := hb
 exact ⟨_, fun i => pe_op (ho i) (pa i) (pb i), sd_op hr sa sb⟩
theorem vk (B : CtxOk X P w K mg base k W N sc) (ha : BE X K W a fa) (hb : BE X K W b fb) : BE X K W (.BinOp a .Add b pos) (fOp addD fa fb) := be_op (fun i => by have := @op_addX (X i); rw [B.pK i] at this; exact this) ok_add ha hb
theorem va6 (B : CtxOk X P w K mg base k W N sc) (ha : BE X K W a fa) (hb : BE X K W b fb) : BE X K W (.BinOp a .Mult b pos) (fOp zaq fa fb) := be_op (fun i => by have := @op_mulXX (X i); rw [B.pK i] at this; exact this) ok_mulXX ha hb
theorem ya6 (B : CtxOk X P w K mg base k W N sc) (ha : BE X K W a fa) (hb : BE X K W b fb) : BE X K W (.BinOp a .Mod b pos) (fOp modD fa fb) := be_op (fun i => op_mod) ok_mod ha hb
theorem qbr (B : CtxOk X P w K mg base k W N sc) (ha : BE X K W a fa) (hb : BE X K W b fb) : BE X K W (.BinOp a .FloorDiv b pos) (fOp za3 fa fb) := be_op (fun i => op_fdiv) ok_fdiv ha hb
theorem be_neg (ha : BE X K W a fa) : BE X K W (.UnaryOp .USub a pos) (fUn negD fa) := by
 obtain ⟨ta, pa, sa⟩ := ha
 exact ⟨_, fun i => pe_un un_neg (pa i), sd_un ok_neg sa⟩
inductive COp (X : ι → Cx) (K : PySem.W.Frag) (op : CmpOp) : (D → D → Option Rv) → Prop where
 | mk (r : R2) (f : D → D → Option Rv) (ho : ∀ i, OpR (X i) (compareOp op) r) (hr : R2Ok K r f) : COp X K op f
theorem c_eq (B : CtxOk X P w K mg base k W N sc) : COp X K .Eq eqD := .mk _ _ (fun i => by have := @op_eqD (X i) (by have := B.u64 i; omega); rw [B.pK i] at this; exact this) ok_eq
theorem c_ne (B : CtxOk X P w K mg base k W N sc) : COp X K .NotEq neD := .mk _ _ (fun i => by have := @op_neD (X i) (by have := B.u64 i; omega); rw [B.pK i] at this; exact this) ok_ne
theorem c_lt (B : CtxOk X P w K mg base k W N sc) : COp X K .Lt ltXD := .mk _ _ (fun i => by have := @op_ltXX (X i) (by have := B.u64 i; omega); rw [B.pK i] at this; exact this) ok_ltXX
theorem c_le (B : CtxOk X P w K mg base k W N sc) : COp X K .LtE leD := .mk _ _ (fun i => op_le) ok_le
theorem c_gt (B : CtxOk X P w K mg base k W N sc) : COp X K .Gt gtD := .mk _ _ (fun i => op_gt) ok_gt
theorem c_is (B : CtxOk X P w K mg base k W N sc) : COp X K .Is isD := .mk _ _ (fun i => op_isX) ok_is
theorem c_isNot (B : CtxOk X P w K mg base k W N sc) : COp X K .IsNot xaz := .mk _ _ (fun i => op_isNotX) ok_isNot
theorem c_in (B : CtxOk X P w K mg base k W N sc) : COp X K .In inD := .mk _ _ (fun i => by have := @op_inX (X i); rw [B.pK i] at this; exact this) ok_in
theorem c_notIn (B : CtxOk X P w K mg base k W N sc) : COp X K .NotIn jbk := .mk _ _ (fun i => by have := @op_notInX (X i); rw [B.pK i] at this; exact this) ok_notIn
theorem jaa {op : CmpOp} {f : D → D → Option Rv} (ho : COp X K op f) (ha : BE X K W a fa) (hb : BE X K W b fb) (hm : behindInMarks op b = false := by first | exact nomark _ | rfl) : BE X K W (.Compare a [op] [b] pos) (fOp f fa fb) := by
 obtain ⟨r, f, ho, hr⟩ := ho
 obtain ⟨ta, pa, sa⟩ := ha
 obtain ⟨tb, pb, sb⟩ := hb
 exact ⟨_, fun i => pe_cmpR (ho i) (pa i) (pb i) hm, sd_op hr sa sb⟩
theorem xn {op : CmpOp} {f : D → D → Option Rv} (ho : COp X K op f) (ha : BE X K W a fa) (hb : BE X K W b fb) (hm : behindInMarks op b = false := by first | exact nomark _ | rfl) : BT X K W (.Compare a [op] [b] pos) (kf (fOp f fa fb)) := by
 obtain ⟨r, f, ho, hr⟩ := ho
 obtain ⟨ta, pa, sa⟩ := ha
 obtain ⟨tb, pb, sb⟩ := hb
 exact ⟨_, fun i => pt_cmpR (ho i) (pa i) (pb i) hm, kax (sd_op hr sa sb)⟩
theorem be_chain {op op' : CmpOp} {f f' : D → D → Option Rv} (ho : COp X K op f) (ho' : COp X K op' f') (ha : BE X K W a fa) (hb : BE X K W b fb) (hc : BE X K W c fc) (hm : lastMarks [op, op'] [b, c] = false := by with_unfolding_all rfl) : BE X K W (.Compare a [op, op'] [b, c] pos) (kbl f f' fa fb fc) := by
 obtain ⟨r, f, ho, hr⟩ := ho
 obtain ⟨r', f', ho', hr'⟩ := ho'
 obtain ⟨ta, pa, sa⟩ := ha
 obtain ⟨tb, pb, sb⟩ := hb
 obtain ⟨tc, pc, sc⟩ := hc
 exact ⟨_, fun i => pe_chain (ho i) (ho' i) (pa i) (pb i) (pc i) hm, sd_chain hr hr' sa sb sc⟩
theorem qaa (ha : BE X K W a fa) (he : ∀ i, ∀ whole, isTrue a (X i).env whole = (do let v ← whole; standAt a.pos; holding [v] (truthy v)) := by intro _ _; rfl) : BT X K W a (kf fa) := by
 obtain ⟨ta, pa, sa⟩ := ha
 exact ⟨_, fun i => pt_val (pa i) (he i), sd_tb sa⟩
theorem bt_w (ha : BW X K W a g) : BT X K W a g := by
 obtain ⟨ta, pa, sa⟩ := ha
 exact ⟨_, fun i => (pa i).pt, sa⟩
theorem zbm (ha : BT X K W a g) : BW X K W (.BoolOp .Or [a] pos) g := by
 obtain ⟨ta, pa, sa⟩ := ha
 exact ⟨_, fun i => pw_or1 (pa i), sa⟩
theorem bw_or (ha : BT X K W a g) (hb : BW X K W (.BoolOp .Or (b :: es) pos) h) : BW X K W (.BoolOp .Or (a :: b :: es) pos) (fOr g h) := by
 obtain ⟨ta, pa, sa⟩ := ha
 obtain ⟨tb, pb, sb⟩ := hb
 exact ⟨_, fun i => pw_or (pa i) (pb i), sd_or sa sb⟩
theorem waj (ha : BT X K W a g) : BT X K W (.UnaryOp .Not a pos) (fNot g) := by
 obtain ⟨ta, pa, sa⟩ := ha
 exact ⟨_, fun i => pt_not (pa i), sd_not sa⟩
theorem wap {op} (ha : BE X K W a fa) : BE X K W (.BoolOp op [a] pos) fa := by
 obtain ⟨ta, pa, sa⟩ := ha
 exact ⟨_, fun i => pe_one (pa i), sa⟩
theorem yz (ha : BE X K W a fa) (hb : BE X K W (.BoolOp .And (b :: es) pos) fb) : BE X K W (.BoolOp .And (a :: b :: es) pos) (kab fa fb) := by
 obtain ⟨ta, pa, sa⟩ := ha
 obtain ⟨tb, pb, sb⟩ := hb
 exact ⟨_, fun i => pe_and (pa i) (pb i), sd_andV sa sb⟩
theorem be_or (ha : BE X K W a fa) (hb : BE X K W (.BoolOp .Or (b :: es) pos) fb) : BE X K W (.BoolOp .Or (a :: b :: es) pos) (fOrV fa fb) := by
 obtain ⟨ta, pa, sa⟩ := ha
 obtain ⟨tb, pb, sb⟩ := hb
 exact ⟨_, fun i => pe_or (pa i) (pb i), sd_orV sa sb⟩
theorem be_not (ha : BE X K W a fa) : BE X K W (.UnaryOp .Not a pos) (fNotV fa) := by
 obtain ⟨ta, pa, sa⟩ := ha
 exact ⟨_, fun i => pe_not (pa i), sd_notV sa⟩
theorem be_if (hc : BT X K W c g) (ha : BE X K W a fa) (hb : BE X K W b fb) : BE X K W (.IfExp c a b pos) (fIf g fa fb) := by
 obtain ⟨tc, pc, sc⟩ := hc
 obtain ⟨ta, pa, sa⟩ := ha
 obtain ⟨tb, pb, sb⟩ := hb
 exact ⟨_, fun i => pe_ifExp (pc i) (pa i) (pb i), sd_if sc sa sb⟩
variable {fr : PL.P (List Rv)} {gd : PL.P (List D)} {ga : PL.P (List Arg)}
theorem ye : BAv X K W [] fNil := ⟨_, fun i => pa_nil, sd_nil⟩
theorem xb (ha : BE X K W e fe) (hr : BAv X K W es fr) (hs : ∀ i, starEach (e :: es) (X i).env = (false, eval e (X i).env) :: starEach es (X i).env := by intro _; rfl) : BAv X K W (e :: es) (yd fe fr) := by
 obtain ⟨ta, pa, sa⟩ := ha
 obtain ⟨tb, pb, sb⟩ := hr
 exact ⟨_, fun i => pa_cons (pa i) (pb i) (hs i), sd_cons sa sb⟩
theorem jc : BAd X K W [] vNil := ⟨_, fun i => pa_nil, sg_nil⟩
theorem xa (ha : BE X K W e fe) (hr : BAd X K W es gd) (hs : ∀ i, starEach (e :: es) (X i).env = (false, eval e (X i).env) :: starEach es (X i).env := by intro _; rfl) : BAd X K W (e :: es) (ya fe gd) := by
 obtain ⟨ta, pa, sa⟩ := ha
 obtain ⟨tb, pb, sb⟩ := hr
 exact ⟨_, fun i => pa_cons (pa i) (pb i) (hs i), yaa sa sb⟩
theorem vg : BAa X K W [] uNil := ⟨_, fun i => pa_nil, su_nil⟩
theorem aa_d (ha : BE X K W e fe) (hr : BAa X K W es ga) (hs : ∀ i, starEach (e :: es) (X i).env = (false, eval e (X i).env) :: starEach es (X i).env := by intro _; rfl) : BAa X K W (e :: es) (uD fe ga) := by
 obtain ⟨ta, pa, sa⟩ := ha
 obtain ⟨tb, pb, sb⟩ := hr
 exact ⟨_, fun i => pa_cons (pa i) (pb i) (hs i), su_d sa sb⟩
theorem aa_m (B : CtxOk X P w K mg base k W N sc) (n : Nat) (hr : BAa X K W es ga) (hN : N[n]? = some x := by rfl) (hv : Vis sc x := by first | exact Or.inl rfl | exact Or.inr (Or.inl rfl) | exact Or.inr (Or.inr rfl)) (hd : (x == ("__debug__" : Str)) = false := by decide)
  (hcd : (x == ("__classdict__" : Str)) = false := by decide) (hs : ∀ i, starEach (.Name x pos :: es) (X i).env = (false, eval (.Name x pos) (X i).env) :: starEach es (X i).env := by intro _; rfl) : BAa X K W (.Name x pos :: es) (uM n ga) := by
 obtain ⟨tb, pb, sb⟩ := hr
 exact ⟨_, fun i => pa_cons (pe_var (B.at_ hN i) (B.vis hv i) hd hcd) (pb i) (hs i), su_m sb⟩
theorem jr {x1} (hs : BAd X K W es gd) : BE X K W (.Tuple es x1 pos) (fTup gd) := by
 obtain ⟨ta, pa, sa⟩ := hs
 exact ⟨_, fun i => pe_tupP (pa i), sd_tup sa⟩
theorem qak (hs : BAd X K W es gd) : BE X K W (.List es pos) (fLst gd) := by
 obtain ⟨ta, pa, sa⟩ := hs
 exact ⟨_, fun i => pe_lst (pa i), sd_lst sa⟩
variable {lo hi : Option Expr} {zl zh : PL.P (Option Int)}
theorem qj (B : CtxOk X P w K mg base k W N sc) (ha : BE X K W a fa) (hb : BE X K W b fb) (hs : PlainIx b := by exact fun _ _ => rfl) : BE X K W (.Subscript a b pos) (fOp ixD fa fb) := by
 obtain ⟨ta, pa, sa⟩ := ha
 obtain ⟨tb, pb, sb⟩ := hb
 exact ⟨_, fun i => pe_ix (by have := @ix_seq (X i); rw [B.pK i] at this; exact this) (pa i) (pb i) hs, sd_op ok_ix sa sb⟩
theorem xac : BO X K W none zNo := ⟨_, fun i => po_none, sz_no⟩
theorem yn (ha : BE X K W a fa) : BO X K W (some a) (zAt fa) := by
 obtain ⟨ta, pa, sa⟩ := ha
 exact ⟨_, fun i => po_some (pa i), sz_at sa⟩
theorem wbg (B : CtxOk X P w K mg base k W N sc) (ha : BE X K W a fa) (hl : BO X K W lo zl) (hh : BO X K W hi zh) : BE X K W (.Subscript a (.Slice lo hi none p2) pos) (fSl fa zl zh) := by
 obtain ⟨ta, pa, sa⟩ := ha
 obtain ⟨tl, pl, sl⟩ := hl
 obtain ⟨tu, pu, su⟩ := hh
 exact ⟨_, fun i => pe_slice (by have := @sl_X (X i); rw [B.pK i] at this; exact this) (pa i) (pl i) (pu i), sd_sl sa sl su⟩
end
end PL
namespace PL
open PySem L2
section
variable {ι : Type} {X : ι → Cx} {P : Program} {w : World} {K : PySem.W.Frag} {mg : Str → Option Value} {base : Heap} {k : Nat} {W : WX} {N : List Str} {sc : Scope}
variable {a b c e o : Expr} {es : List Expr} {pos p p2 apos tpos : Pos} {x : Str} {fa fb fc fe fo : PL.P Rv} {g h : PL.P Bool} {fr : PL.P (List Rv)} {gd : PL.P (List D)} {ga : PL.P (List Arg)}
inductive CFn (X : ι → Cx) (K : PySem.W.Frag) (mg : Str → Option Value) (x : Str) : (List D → Option Rv) → Prop where
 | fn (id : String) (r : List V → Hp → VK → Prop) (f : List D → Option Rv) (hm : mg x = none) (hv : bootBuiltins x = some (.builtin id)) (hn : x ≠ "__name__") (hd : (x == ("__debug__" : Str)) = false) (ho : ∀ i, CallR (X i) (.builtin id) r) (hr : RCOk K r f) : CFn X K mg x f
 | ty (T : String) (r : List V → Hp → VK → Prop) (f : List D → Option Rv) (hm : mg x = none) (hv : bootBuiltins x = some (.type T)) (hn : x ≠ "__name__") (hd : (x == ("__debug__" : Str)) = false) (ho : ∀ i, CallR (X i) (.type T) r) (hr : RCOk K r f) : CFn X K mg x f
theorem b_len (B : CtxOk X P w K mg base k W N sc) (hm : mg "len" = none) : CFn X K mg "len" lenD := .fn "len" _ _ hm (by decide +kernel) (by decide) (by decide) (fun i => by have := @call_len (X i); rw [B.pK i] at this; exact this) ok_len
theorem b_max (B : CtxOk X P w K mg base k W N sc) (hm : mg "max" = none) : CFn X K mg "max" maxD := .fn "max" _ _ hm (by decide +kernel) (by decide) (by decide) (fun i => call_max2 (B.calm i)) ok_max
theorem b_min (B : CtxOk X P w K mg base k W N sc) (hm : mg "min" = none) : CFn X K mg "min" minD := .fn "min" _ _ hm (by decide +kernel) (by decide) (by decide) (fun i => call_min2 (B.calm i)) ok_min
theorem b_list (B : CtxOk X P w K mg base k W N sc) (hm : mg "list" = none) : CFn X K mg "list" vbp := .ty "list" _ _ hm (by decide +kernel) (by decide) (by decide) (fun i => by have := @call_list_of (X i); rw [B.pK i] at this; exact this) ok_list
theorem jbh (B : CtxOk X P w K mg base k W N sc) (hm : mg "tuple" = none) : CFn X K mg "tuple" jae := .ty "tuple" _ _ hm (by decide +kernel) (by decide) (by decide) (fun i => by have := @wbq (X i); rw [B.pK i] at this; exact this) ok_tuple
theorem b_all (B : CtxOk X P w K mg base k W N sc) (hm : mg "all" = none) : CFn X K mg "all" allD := .fn "all" _ _ hm (by decide +kernel) (by decide) (by decide) (fun i => by have := @cr_all (X i) (B.calm i); rw [B.pK i] at this; exact this) ok_all
theorem wa3 {cs : List Addr} (hcs : ∀ c, cs.contains c = true → IsiCls K c) (B : CtxOk X P w K mg base k W N sc) (hm : mg "isinstance" = none) : CFn X K mg "isinstance" (isiD K cs) := .fn "isinstance" _ _ hm (by decide +kernel) (by decide) (by decide) (fun i => by have := @call_isY (X i); rw [B.pK i] at this; exact this) (ok_isi hcs)
theorem ql {f : List D → Option Rv} (B : CtxOk X P w K mg base k W N sc) (hc : CFn X K mg x f) (ha : BAv X K W (e :: es) fr) (hg : sc.names.lookup x = some .globalImplicit := by rfl)
  (he : ∀ i, starEach (e :: es) (X i).env = (false, eval e (X i).env) :: starEach es (X i).env := by intro _; rfl) (hpl : ∀ i, (backTo pos (starEach es (X i).env)).any (·.1) = false := by intro _; rfl) : BE X K W (.Call (.Name x p) (e :: es) [] pos) (fCB f fr) := by
 obtain ⟨ta, pa, sa⟩ := ha
 cases hc with
 | fn id r _ hm hv hn hd ho hr => exact ⟨_, fun i => pe_callB (ho i) (B.gl hg i) (by rw [B.pm i]; exact hm) hv (pa i) hn hd (he i) (hpl i), sd_cb hr sa⟩
 | ty T r _ hm hv hn hd ho hr => exact ⟨_, fun i => pe_callTy (ho i) (B.gl hg i) (by rw [B.pm i]; exact hm) hv (pa i) hn hd (he i) (hpl i), sd_cb hr sa⟩
inductive CM1 (X : ι → Cx) (K : PySem.W.Frag) (name : Str) : (Str → D → Option Rv) → Prop where
 | mk (id : String) (r : V → List V → Hp → VK → Prop) (f : Str → D → Option Rv) (slot : Slot "str" name id) (ty : typeOf (.builtin id) = pure (.type "method_descriptor")) (ho : ∀ i, MtR (X i) id r) (hr : RM1 K r f) : CM1 X K name f
theorem m_strip (B : CtxOk X P w K mg base k W N sc) : CM1 X K "strip" kbi := .mk _ _ _ F.slot_str_strip F.type_str_strip (fun i => mt_stripChars) ok_strip
theorem be_m1 {name : Str} {f : Str → D → Option Rv} (hc : CM1 X K name f) (ho : BE X K W o fo) (he : BE X K W e fe) (hs : ∀ i, starEach [e] (X i).env = [(false, eval e (X i).env)] := by intro _; rfl)
  (hbase : ∀ i, attributeBase o name (X i).env (eval o (X i).env) = eval o (X i).env := by intro _; rfl) (hline : (apos.endLine == pos.line) = true := by rfl) : BE X K W (.Call (.Attribute o name apos) [e] [] pos) (fM1 f fo fe) := by
 obtain ⟨to, po, so⟩ := ho
 obtain ⟨te, pe, se⟩ := he
 obtain ⟨id, r, f, slot, ty, hm, hr⟩ := hc
 exact ⟨_, fun i => pe_m1 slot ty (hm i) (po i) (pe i) (hs i) (hbase i) hline, sd_m1 hr so se⟩
structure xak (P : Program) (w : World) (K : PySem.W.Frag) (mg : Str → Option Value) (base : Heap) (k : Nat) (x : Str) (n : Nat) (F : PL.P Rv) : Prop where
 ex : ∃ (f : Addr) (fd : FuncData) (ps : List Str), FnOk P w K mg base (L2.CX P w) k f fd ps (spF K n F) ∧ mg x = some (.ref f) ∧ PySem.W.keepIn K (.ref f) = true ∧ Binds K fd ps []
 rv : ∀ cs r cs', F cs = some (.ok r cs') → rvD r = true
theorem pe_callE {X : Cx} {f : Addr} {fd : FuncData} {ps : List Str} {sp : Sp} {t : TA} (h1 : X.prog = P) (h2 : X.w = w) (h3 : X.K = K) (h4 : X.mg = mg) (h5 : X.base = base) (tk : Takes X W) (F : FnOk P w K mg base (L2.CX P w) k f fd ps sp) (hr : Room k X.A) (hg : Gl X x) (hm : mg x = some (.ref f))
  (hk : PySem.W.keepIn K (.ref f) = true) (hb : Binds K fd ps []) (ha : PA X (e :: es) t) (hdb : (x == ("__debug__" : Str)) = false) (he : starEach (e :: es) X.env = (false, eval e X.env) :: starEach es X.env) (hpl : (backTo pos (starEach es X.env)).any (·.1) = false) :
  PE X (.Call (.Name x p) (e :: es) [] pos) (tCallS sp (WE W) t) := by
 subst h1 h2 h3 h4 h5
 exact pe_callS F hr hg hm hk hb (fun σ => passAt tk σ) ha hdb he hpl
theorem wd {n : Nat} {F : PL.P Rv} (B : CtxOk X P w K mg base k W N sc) (hF : xak P w K mg base k x n F) (ha : BAa X K W (e :: es) ga) (hg : sc.names.lookup x = some .globalImplicit := by rfl) (hdb : (x == ("__debug__" : Str)) = false := by decide)
  (he : ∀ i, starEach (e :: es) (X i).env = (false, eval e (X i).env) :: starEach es (X i).env := by intro _; rfl) (hpl : ∀ i, (backTo pos (starEach es (X i).env)).any (·.1) = false := by intro _; rfl) : BE X K W (.Call (.Name x p) (e :: es) [] pos) (zk n F ga) := by
 obtain ⟨ta, pa, sa⟩ := ha
 obtain ⟨f, fd, ps, h1, h2, h3, h4⟩ := hF.ex
 exact ⟨_, fun i => pe_callE (B.pP i) (B.pw i) (B.pK i) (B.pm i) (B.pb i) (B.tk i) h1 (B.room i) (B.gl hg i) h2 h3 h4 (pa i) hdb (he i) (hpl i), sd_call hF.rv sa⟩
variable {tg : Expr} {fi : PL.P (List D)} {js ks : List Nat} {at_ : Tgt} {ats : List D → En → Option En} {tgs : List Expr}
theorem bi_X (B : CtxOk X P w K mg base k W N sc) (ha : BE X K W a fa) : BI X K W tg a (xab fa) := by
 obtain ⟨ta, pa, sa⟩ := ha
 exact ⟨_, fun i => by have := @pi_X (X i) tg a ta (pa i); rw [B.pK i] at this; exact this, sd_iter sa⟩
theorem bi_rng1 (B : CtxOk X P w K mg base k W N sc) (hm : mg "range" = none) (ha : BAv X K W [a] fr) (hg : sc.names.lookup ("range" : Str) = some .globalImplicit := by rfl) (hs : ∀ i, starEach [a] (X i).env = [(false, eval a (X i).env)] := by intro _; rfl) : BI X K W tg (.Call (.Name "range" p) [a] [] pos) (fRng1 fr) := by
 obtain ⟨ta, pa, sa⟩ := ha
 exact ⟨_, fun i => pi_range1 (B.gl hg i) (by rw [B.pm i]; exact hm) (pa i) (hs i), sd_rng1 sa⟩
theorem kh (B : CtxOk X P w K mg base k W N sc) (n : Nat) (hi : N[n]? = some x := by rfl) (hx : Loc sc x := by first | exact .inl rfl | exact .inr rfl) (hf : ∀ i, (X i).fn x = true ∨ (X i).env.scope.names.lookup x = some .local := by intro _; first | exact .inl rfl | exact .inr rfl) : BG X K [n] (.Name x pos) (aN n) :=
 ⟨_, fun i => pg_name (B.nd i) (B.at_ hi i) (B.lo hx i) (hf i), sg_name⟩
theorem bgs_nil : BGs X K [] [] aNil := ⟨_, fun i => pgs_nil, sgs_nil⟩
end
end PL
namespace PL
open PySem L2
section
variable {ι : Type} {X : ι → Cx} {P : Program} {w : World} {K : PySem.W.Frag} {mg : Str → Option Value} {base : Heap} {k : Nat} {W : WX} {N : List Str} {sc : Scope}
variable {a b c e o : Expr} {es : List Expr} {pos p p2 apos tpos : Pos} {x : Str} {fa fb fc fe fo : PL.P Rv} {g h : PL.P Bool} {fr : PL.P (List Rv)} {gd : PL.P (List D)} {ga : PL.P (List Arg)}
variable {tg : Expr} {fi : PL.P (List D)} {js ks fx : List Nat} {at_ : Tgt} {ats : List D → En → Option En} {tgs : List Expr}
theorem bgs_cons (h1 : BG X K js e at_) (h2 : BGs X K ks es ats) (hs : ∀ i, (assignEach (e :: es) (X i).env).map (·.2) = assign e (X i).env :: (assignEach es (X i).env).map (·.2) := by intro _; rfl) : BGs X K (js ++ ks) (e :: es) (zbr at_ ats) := by
 obtain ⟨ta, pa, sa⟩ := h1
 obtain ⟨tb, pb, sb⟩ := h2
 exact ⟨_, fun i => pgs_cons (pa i) (pb i) (hs i), sgs_cons sa sb⟩
theorem bg_tup {kk : Nat} (B : CtxOk X P w K mg base k W N sc) (n : Nat) (hs : BGs X K js es ats) (hn : ∀ i, (assignEach es (X i).env).length = n := by intro _; rfl) (hst : ∀ i, (assignEach es (X i).env).findIdx? (·.1) = none := by intro _; rfl) : BG X K js (.Tuple es kk pos) (aT n ats) := by
 obtain ⟨ta, pa, sa⟩ := hs
 exact ⟨_, fun i => by have := @pg_tup (X i) pos es kk ta n (B.calm i) (pa i) (hn i) (hst i); rw [B.pK i] at this; exact this, sg_tup sa⟩
abbrev BlkIx (ι : Type) := ι × Shared × Hp × Addr × List (Str × Addr) × List Addr
abbrev blkX (X : ι → Cx) (scope : Scope) : BlkIx ι → Cx := fun j => (X j.1).blk j.2.1 j.2.2.1 scope (compEnvC scope j.2.2.2.2.1 j.2.2.2.1 (X j.1).env) j.2.2.2.2.2
theorem CtxOk.blkOk (B : CtxOk X P w K mg base k W N sc) {scope : Scope} {own : List (Str × Nat)} (h : BlkOk N sc scope own) (i : ι) : BlkOk (X i).N (X i).env.scope scope own := by rw [B.nN i, B.ns i]; exact h
def W0 : WX := fun _ _ _ _ => False
def relab (scope sc : Scope) : Scope := relabel scope { scope := sc, locals := 0, globals := 0, cells := [] }
theorem CtxOk.blk (B : CtxOk X P w K mg base k W N sc) (scope : Scope) : CtxOk (blkX X scope) P w K mg base k W0 N (relab scope sc) :=
 ⟨fun j => B.pP j.1, fun j => B.pw j.1, fun j => B.pK j.1, fun j => B.pm j.1, fun j => B.pb j.1, fun j => B.room j.1, fun j => takes0, fun j => B.calm j.1, fun j => PassesOwn.never, fun j => B.nN j.1, fun j => by obtain ⟨i, s, H, C, cl, fp⟩ := j; rw [← B.ns i]; rfl, B.nd'⟩
theorem yt : BTs X K W [] fYes := ⟨_, fun i => pts_nil, fun σ C H ρ e => At.ret (R := BRel H) (v := true) e rfl⟩
theorem bts_one (ha : BT X K W a g) : BTs X K W [a] g := by
 obtain ⟨ta, pa, sa⟩ := ha
 exact ⟨_, fun i => pts_one (pa i), sa⟩
variable {iter elt : Expr} {ifs : List Expr} {scope : Scope} {own : List (Str × Nat)}
theorem ya3 (B : CtxOk X P w K mg base k W N sc) (own : List (Str × Nat)) (hi : BI X K W tg iter fi) (hg : BG (blkX X scope) K js tg at_) (ht : BTs (blkX X scope) K W0 ifs g) (he : BE (blkX X scope) K W0 elt fe)
  (ok : BlkOk N sc scope own := by exact blkOk_by (by decide +kernel)) (hj : ∀ j ∈ js, j ∈ own.map (·.2) := by decide) (hs : ∀ i, ∀ x, foldedSetIterable iter (X i).env x = pure x := by intro _ _; rfl) :
  BE X K W (.ListComp elt [⟨tg, iter, ifs, 0⟩] scope pos) (vy (own.map (·.2)) fi at_ g fe) := by
 obtain ⟨ti, pi, si⟩ := hi
 obtain ⟨tG, pG, sG⟩ := hg
 obtain ⟨tt, pt, st⟩ := ht
 obtain ⟨te, pe, se⟩ := he
 exact ⟨_, fun i => pe_lc (B.calm i) (B.nd i) (pi i) (B.blkOk ok i) (fun s H C cl fp => pG (i, s, H, C, cl, fp)) (fun s H C cl fp => pt (i, s, H, C, cl, fp)) (fun s H C cl fp => pe (i, s, H, C, cl, fp)) (hs i), sd_comp hj si sG st se⟩
variable {st : Stmt} {sts th el : List Stmt} {G1 G2 G3 : PL.P Fl}
theorem qg : BSs X K W fx [] xq := ⟨_, fun i => pss_nil, ss_next⟩
theorem za (h1 : BS X K W fx st G1) (h2 : BSs X K W fx sts G2) : BSs X K W fx (st :: sts) (sSeq G1 G2) := by
 obtain ⟨ta, pa, sa⟩ := h1
 obtain ⟨tb, pb, sb⟩ := h2
 exact ⟨_, fun i => pss_cons (pa i) (pb i), ss_seq sa sb⟩
theorem jb (h1 : BS X K W fx st G1) : BSs X K W fx [st] G1 := by
 obtain ⟨ta, pa, sa⟩ := h1
 exact ⟨_, fun i => pss_one (pa i), sa⟩
theorem wa0 (he : BE X K W e fe) (hs : ∀ i, swapsWith e none pos.line (X i).env = pure false := by intro _; rfl) : BS X K W fx (.Expr e pos) (ybb fe) := by
 obtain ⟨ta, pa, sa⟩ := he
 exact ⟨_, fun i => ps_expr (pa i) (hs i), ss_drop sa⟩
theorem vf (he : BE X K W e fe) : BS X K W fx (.Return (some e) pos) (sRet fe) := by
 obtain ⟨ta, pa, sa⟩ := he
 exact ⟨_, fun i => ps_ret (pa i), ss_ret sa⟩
theorem vz (hc : BT X K W c g) (h1 : BSs X K W fx th G1) (h2 : BSs X K W fx el G2) : BS X K W fx (.If c th el pos) (sIf g G1 G2) := by
 obtain ⟨tc, pc, sc⟩ := hc
 obtain ⟨ta, pa, sa⟩ := h1
 obtain ⟨tb, pb, sb⟩ := h2
 exact ⟨_, fun i => ps_if (pc i) (pa i) (pb i), ss_if sc sa sb⟩
theorem we (B : CtxOk X P w K mg base k W N sc) (n : Nat) (he : BE X K W e fe) (hi : N[n]? = some x := by rfl) (hx : Loc sc x := by first | exact .inl rfl | exact .inr rfl) (hs : ∀ i, swapsWith e (some (.Name x p)) pos.line (X i).env = pure false := by intro _; rfl)
  (hf : ∀ i, (X i).fn x = true ∨ (X i).env.scope.names.lookup x = some .local := by intro _; first | exact .inl rfl | exact .inr rfl) (hn : n ∉ fx := by decide) : BS X K W fx (.Assign [.Name x p] e pos) (sSet n fe) := by
 obtain ⟨ta, pa, sa⟩ := he
 exact ⟨_, fun i => ps_set (B.nd i) (B.at_ hi i) (B.lo hx i) (pa i) (hs i) (hf i), ss_set hn sa⟩
theorem bs_setM (B : CtxOk X P w K mg base k W N sc) (n : Nat) (he : BE X K W e fe) (hi : N[n]? = some x := by rfl) (hx : Loc sc x := by first | exact .inl rfl | exact .inr rfl) (hs : ∀ i, swapsWith e (some (.Name x p)) pos.line (X i).env = pure false := by intro _; rfl)
  (hf : ∀ i, (X i).fn x = true ∨ (X i).env.scope.names.lookup x = some .local := by intro _; first | exact .inl rfl | exact .inr rfl) (hn : n ∉ fx := by decide) : BS X K W fx (.Assign [.Name x p] e pos) (zbj n fe) := by
 obtain ⟨ta, pa, sa⟩ := he
 exact ⟨_, fun i => ps_set (B.nd i) (B.at_ hi i) (B.lo hx i) (pa i) (hs i) (hf i), ss_setM hn sa⟩
theorem ps_lcE {spos : Pos} (B : CtxOk X P w K mg base k W N sc) (own : List (Str × Nat)) (hi : BI X K W tg iter fi) (hg : BG (blkX X scope) K js tg at_) (ht : BTs (blkX X scope) K W0 ifs g) (he : BE (blkX X scope) K W0 elt fe)
  (ok : BlkOk N sc scope own) (hj : ∀ j ∈ js, j ∈ own.map (·.2)) (hs : ∀ i, ∀ x, foldedSetIterable iter (X i).env x = pure x)
  {n : Nat} (hN : N[n]? = some x) (hx : sc.names.lookup x = some .local) (hsw : ∀ i, swapsWith (.ListComp elt [⟨tg, iter, ifs, 0⟩] scope pos) (some (.Name x p)) spos.line (X i).env = pure true) :
  ∃ t, (∀ i, PS (X i) (.Assign [.Name x p] (.ListComp elt [⟨tg, iter, ifs, 0⟩] scope pos) spos) (tAsg t (gName n))) ∧ Sd K W (VRel K) t (vy (own.map (·.2)) fi at_ g fe) := by
 obtain ⟨ti, pi, si⟩ := hi
 obtain ⟨tG, pG, sG⟩ := hg
 obtain ⟨tt, pt, st⟩ := ht
 obtain ⟨te, pe, se⟩ := he
 exact ⟨_, fun i => ps_setLc (B.calm i) (B.nd i) (B.at_ hN i) (B.lcl hx i) (hsw i) (pi i) (B.blkOk ok i) (fun s H C cl fp => pG (i, s, H, C, cl, fp)) (fun s H C cl fp => pt (i, s, H, C, cl, fp)) (fun s H C cl fp => pe (i, s, H, C, cl, fp)) (hs i), sd_comp hj si sG st se⟩
theorem bs_lc {spos : Pos} (B : CtxOk X P w K mg base k W N sc) (n : Nat) (own : List (Str × Nat)) (hi : BI X K W tg iter fi) (hg : BG (blkX X scope) K js tg at_) (ht : BTs (blkX X scope) K W0 ifs g) (he : BE (blkX X scope) K W0 elt fe)
  (ok : BlkOk N sc scope own := by exact blkOk_by (by decide +kernel)) (hj : ∀ j ∈ js, j ∈ own.map (·.2) := by decide) (hs : ∀ i, ∀ x, foldedSetIterable iter (X i).env x = pure x := by intro _ _; rfl)
  (hN : N[n]? = some x := by rfl) (hx : sc.names.lookup x = some .local := by rfl) (hsw : ∀ i, swapsWith (.ListComp elt [⟨tg, iter, ifs, 0⟩] scope pos) (some (.Name x p)) spos.line (X i).env = pure true := by intro _; exact sw_true rfl rfl rfl (by decide +kernel)) (hn : n ∉ fx := by decide) :
  BS X K W fx (.Assign [.Name x p] (.ListComp elt [⟨tg, iter, ifs, 0⟩] scope pos) spos) (sSet n (vy (own.map (·.2)) fi at_ g fe)) := by
 obtain ⟨t, h1, h2⟩ := ps_lcE B own hi hg ht he ok hj hs hN hx hsw
 exact ⟨_, h1, ss_set hn h2⟩
def augAddD : D → D → Option Rv
 | .s (.int i), .s (.int j) => some (rvI (i + j))
 | .s (.str a), .s (.str b) => if a.length + b.length ≤ sizeLine then some (rvS (a ++ b)) else none
 | _, _ => none
theorem bs_incL {j j2 : Nat} {p3 p4 : Pos} (B : CtxOk X P w K mg base k W N sc) (n q : Nat) (z : Int) (hN : N[n]? = some x := by rfl) (hv : Vis sc x := by first | exact Or.inl rfl | exact Or.inr (Or.inl rfl) | exact Or.inr (Or.inr rfl)) (hd : (x == ("__debug__" : Str)) = false := by decide)
  (hcd : (x == ("__classdict__" : Str)) = false := by decide) (ha : ∀ ov iv new, augStore (.Constant (.int ((q : Nat) : Int)) j p3) ov iv new = (do holding [new, ov, iv] (setItem ov iv new); release [new, ov, iv] []; pure .next) := by intros; rfl) :
  BS X K W fx (.AugAssign (.Subscript (.Name x p) (.Constant (.int ((q : Nat) : Int)) j p3) p2) .Add (.Constant (.int z) j2 p4) pos) (sIncL n q z) :=
 ⟨_, fun i => by
  have := @ps_augS (X i) pos (.Name x p) (.Constant (.int ((q : Nat) : Int)) j p3) (.Constant (.int z) j2 p4) _ _ _ _ _ _ .Add p2 (pe_var (B.at_ hN i) (B.vis hv i) hd hcd) pe_int pget_list pe_int iop_add set_list ha
  rw [B.pK i] at this
  exact this, ss_incL⟩
theorem bs_for (B : CtxOk X P w K mg base k W N sc) (hi : BI X K W tg iter fi) (hg : BG X K js tg at_) (hb : BSs X K W fx sts G1) (hj : ∀ i ∈ fx, i ∉ js := by decide) (hs : ∀ i, ∀ x, foldedSetIterable iter (X i).env x = pure x := by intro _ _; rfl) : BS X K W fx (.For tg iter sts [] pos) (sFor fi at_ G1) := by
 obtain ⟨ti, pi, si⟩ := hi
 obtain ⟨tG, pG, sG⟩ := hg
 obtain ⟨tb, pb, sb⟩ := hb
 exact ⟨_, fun i => ps_for (B.pass i) (B.calm i) (pi i) (pG i) (pb i) (hs i), ss_for hj si sG sb⟩
end
def WB (E : XK) : WX := fun cls d _ H => E cls d H
section
variable {P : Program} {w : World} {K : PySem.W.Frag} {mg : Str → Option Value} {base : Heap} {k n : Nat} {x qual : Str} {st : Stmt} {f : Addr} {fd : FuncData} {N ps : List Str} {fx : List Nat} {body : PL.P Fl}
theorem wy (F : Fun K x qual st f fd) (hmg : mg x = some (.ref f)) (hb : Binds K fd ps []) (S : FnScope N ps (defScope st)) (hn : ps.length = n) (hN : n ≤ N.length)
  (hbody : ∀ (cdv : Value) (A : Around) (outer : List PySem.Env) (s : Shared) (H : Hp) (E : XK), CtxOk (fun _ : Unit => cxOf (L2.CX P w) P w K mg base N qual (defScope st) f cdv A outer s H E) P w K mg base k (WB E) N (defScope st) →
   BSs (fun _ : Unit => cxOf (L2.CX P w) P w K mg base N qual (defScope st) f cdv A outer s H E) K (WB E) fx (defBody st) body) : xak P w K mg base (k + 1) x n (runF fx N.length body) :=
 ⟨⟨f, fd, ps, fn_ok F S hn hN fun cdv A outer s H E hr => by
  obtain ⟨t, h1, h2⟩ := hbody cdv A outer s H E ⟨fun _ => rfl, fun _ => rfl, fun _ => rfl, fun _ => rfl, fun _ => rfl, fun _ => hr, fun _ => takes_of rfl rfl rfl rfl, fun _ => rfl, fun _ => passes_of rfl, fun _ => rfl, fun _ => rfl, S.nd⟩
  exact ⟨t, h1 (), h2⟩, hmg, F.kp, hb⟩, runF_rvD⟩
end
end PL
namespace PL
open PySem L2
theorem jak {ι : Type} {X : ι → Cx} {P : Program} {w : World} {K : PySem.W.Frag} {mg : Str → Option Value} {base : Heap} {k : Nat} {W : WX} {N : List Str} {sc : Scope} {x : Str} {pos : Pos} {v : V} (B : CtxOk X P w K mg base k W N sc) (h : ∃ u, mg x = some u ∧ RelV v u)
  (hg : sc.names.lookup x = some .globalImplicit := by rfl) (hd : (x == ("__debug__" : Str)) = false := by decide) : BE X K W (.Name x pos) (fC (.s v)) := by
 obtain ⟨u, h1, h2⟩ := h
 exact be_glob B h1 h2 hg hd
end PL
namespace PL
open PySem L2
def wp {α : Type} (f : P α) (Q : α → En → Prop) (E : Exn → En → Prop) (ρ : En) : Prop := match f ρ with
 | none => False
 | some (.ok a r) => Q a r
 | some (.ex e r) => E e r
def wpO {α : Type} (o : Option α) (Q : α → Prop) : Prop := match o with
 | some a => Q a
 | none => False
section
variable {α β : Type} {Q : α → En → Prop} {Q' : β → En → Prop} {QR : Rv → En → Prop} {QB : Bool → En → Prop} {QF : Fl → En → Prop} {QD : D → En → Prop} {QDs : List D → En → Prop} {QRs : List Rv → En → Prop} {QA : List Arg → En → Prop} {QI : Option Int → En → Prop} {E : Exn → En → Prop} {ρ : En}
theorem zar {a : α} {Q : α → Prop} : wpO (some a) Q ↔ Q a := Iff.rfl
theorem xar {Q : α → Prop} : wpO none Q ↔ False := Iff.rfl
theorem x7 {c : Prop} [Decidable c] {a : α} {Q : α → Prop} : wpO (if c then some a else none) Q ↔ c ∧ Q a := by
 by_cases h : c
 ·rw [if_pos h]; exact ⟨fun q => ⟨h, q⟩, fun q => q.2⟩
 ·rw [if_neg h]; exact ⟨fun q => q.elim, fun q => h q.1⟩
theorem xl {a : α} : wp (P.ret a) Q E ρ ↔ Q a ρ := Iff.rfl
theorem wp_bind {f : P α} {k : α → P β} : wp (f.bind k) Q' E ρ ↔ wp f (fun a r => wp (k a) Q' E r) E ρ := by
 unfold wp P.bind
 cases f ρ with
 | none => exact Iff.rfl
 | some o => cases o <;> exact Iff.rfl
theorem ya8 {o : Option α} : wp (P.of o) Q E ρ ↔ wpO o fun a => Q a ρ := by
 unfold wp P.of wpO
 cases o <;> exact Iff.rfl
theorem ybn {b : Bool} {f g : P α} : wp (if b = true then f else g) Q E ρ ↔ if b = true then wp f Q E ρ else wp g Q E ρ := by cases b <;> exact Iff.rfl
theorem wp_mono {f : P α} {Q1 : α → En → Prop} {E1 : Exn → En → Prop} (h : wp f Q1 E1 ρ) (hq : ∀ a r, Q1 a r → Q a r) (he : ∀ e r, E1 e r → E e r) : wp f Q E ρ := by
 unfold wp at h ⊢
 cases q : f ρ with
 | none => rw [q] at h; exact h
 | some o =>
  rw [q] at h
  cases o with
  | ok a r => exact hq a r h
  | ex e r => exact he e r h
theorem qe {f : P α} {Q1 : α → En → Prop} (h : ∀ a r, Q1 a r ↔ Q a r) : wp f Q1 E ρ ↔ wp f Q E ρ := ⟨fun z => wp_mono z (fun a r => (h a r).mp) fun _ _ e => e, fun z => wp_mono z (fun a r => (h a r).mpr) fun _ _ e => e⟩
theorem jax {o : Option α} {Q1 Q2 : α → Prop} (h : ∀ a, Q1 a ↔ Q2 a) : wpO o Q1 ↔ wpO o Q2 := by
 cases o with
 | none => exact Iff.rfl
 | some a => exact h a
theorem wp_eq {f : P α} {a : α} {r : En} (h : f ρ = some (.ok a r)) (q : Q a r) : wp f Q E ρ := by
 unfold wp
 rw [h]
 exact q
theorem wp_get {f : P α} (h : wp f Q (fun _ _ => False) ρ) : ∃ a r, f ρ = some (.ok a r) ∧ Q a r := by
 unfold wp at h
 cases q : f ρ with
 | none => rw [q] at h; exact h.elim
 | some o =>
  rw [q] at h
  cases o with
  | ok a r => exact ⟨a, r, rfl, h⟩
  | ex e r => exact h.elim
theorem qax {r : Rv} {k : D → P Rv} : wp (pk1 r k) QR E ρ ↔ wpO (peek ρ r) fun d => wp (k d) QR E ρ := by
 unfold wp pk1 wpO
 cases peek ρ r <;> exact Iff.rfl
theorem wp_pks {rs : List Rv} {k : List D → P α} : wp (pks rs k) Q E ρ ↔ wpO (jv ρ rs) fun d => wp (k d) Q E ρ := by
 unfold wp pks wpO
 cases jv ρ rs <;> exact Iff.rfl
def atS (ρ : En) (i : Nat) (Q : Cell → Prop) : Prop := match ρ[i]? with
 | some c => Q c
 | none => False
def varQ (i : Nat) (QR : Rv → En → Prop) (ρ : En) : Cell → Prop
 | .no => False
 | .dat d => QR (.dat d) ρ
 | .own _ => QR (.bor i) ρ
theorem wp_var {i : Nat} : wp (fVar i) QR E ρ ↔ atS ρ i (varQ i QR ρ) := by
 unfold wp fVar atS
 cases ρ[i]? with
 | none => exact Iff.rfl
 | some c => cases c <;> exact Iff.rfl
theorem xaw {c : Cell} {r : En} {Q : Cell → Prop} : atS (c :: r) 0 Q ↔ Q c := Iff.rfl
theorem kaw {c : Cell} {r : En} {Q : Cell → Prop} {i : Nat} : atS (c :: r) (i + 1) Q ↔ atS r i Q := Iff.rfl
theorem yar {i : Nat} {d : D} : varQ i QR ρ (.dat d) ↔ QR (.dat d) ρ := Iff.rfl
theorem kar {i : Nat} {m : M} : varQ i QR ρ (.own m) ↔ QR (.bor i) ρ := Iff.rfl
theorem wp_c {d : D} : wp (fC d) QR E ρ ↔ QR (.dat d) ρ := Iff.rfl
theorem wp_op {op : D → D → Option Rv} {fa fb : P Rv} : wp (fOp op fa fb) QR E ρ ↔ wp fa (fun ra r1 => wp fb (fun rb r2 => wpO (peek r2 ra) fun da => wpO (peek r2 rb) fun db => wpO (op da db) fun v => QR v r2) E r1) E ρ := by
 unfold fOp
 simp only [wp_bind, qax, ya8]
theorem wp_un {op : D → Option Rv} {fa : P Rv} : wp (fUn op fa) QR E ρ ↔ wp fa (fun ra r1 => wpO (peek r1 ra) fun da => wpO (op da) fun v => QR v r1) E ρ := by
 unfold fUn
 simp only [wp_bind, qax, ya8]
def isB (d : D) (Q : Bool → Prop) : Prop := match d with
 | .s (.bl b) => Q b
 | _ => False
theorem isB_bl {b : Bool} {Q : Bool → Prop} : isB (.s (.bl b)) Q ↔ Q b := Iff.rfl
theorem wp_asB {r : Rv} : wp (asB r) QB E ρ ↔ wpO (peek ρ r) fun d => isB d fun b => QB b ρ := by
 unfold wp asB wpO isB
 cases peek ρ r with
 | none => exact Iff.rfl
 | some d =>
  cases d with
  | s x => cases x <;> exact Iff.rfl
  | _ => exact Iff.rfl
theorem zaa {f : P Rv} : wp (kf f) QB E ρ ↔ wp f (fun r ρ1 => wpO (peek ρ1 r) fun d => isB d fun b => QB b ρ1) E ρ := by
 unfold kf
 simp only [wp_bind, wp_asB]
theorem wp_and {g h : P Bool} : wp (fAnd g h) QB E ρ ↔ wp g (fun b r => if b = true then wp h QB E r else QB false r) E ρ := by
 unfold fAnd
 simp only [wp_bind, ybn, xl]
theorem wp_or {g h : P Bool} : wp (fOr g h) QB E ρ ↔ wp g (fun b r => if b = true then QB true r else wp h QB E r) E ρ := by
 unfold fOr
 simp only [wp_bind, ybn, xl]
theorem wp_not {g : P Bool} : wp (fNot g) QB E ρ ↔ wp g (fun b r => QB (!b) r) E ρ := by
 unfold fNot
 simp only [wp_bind, xl]
theorem jba {f g : P Rv} : wp (kab f g) QR E ρ ↔ wp f (fun r ρ1 => wpO (peek ρ1 r) fun d => isB d fun b => if b = true then wp g QR E ρ1 else QR (rvB false) ρ1) E ρ := by
 unfold kab
 simp only [wp_bind, ybn, xl, zaa]
theorem wp_orV {f g : P Rv} : wp (fOrV f g) QR E ρ ↔ wp f (fun r ρ1 => wpO (peek ρ1 r) fun d => isB d fun b => if b = true then QR (rvB true) ρ1 else wp g QR E ρ1) E ρ := by
 unfold fOrV
 simp only [wp_bind, ybn, xl, zaa]
theorem wa8 {f : P Rv} : wp (fNotV f) QR E ρ ↔ wp f (fun r ρ1 => wpO (peek ρ1 r) fun d => isB d fun b => QR (rvB (!b)) ρ1) E ρ := by
 unfold fNotV
 simp only [wp_bind, xl, zaa]
theorem wp_ifE {g : P Bool} {fa fb : P Rv} : wp (fIf g fa fb) QR E ρ ↔ wp g (fun b r => if b = true then wp fa QR E r else wp fb QR E r) E ρ := by
 unfold fIf
 simp only [wp_bind, ybn]
theorem jar {op op' : D → D → Option Rv} {fa fb fc : P Rv} : wp (kbl op op' fa fb fc) QR E ρ ↔ wp fa (fun ra r1 => wp fb (fun rb r2 => wpO (peek r2 ra) fun da => wpO (peek r2 rb) fun db => wpO (op da db) fun z => wpO (peek r2 z) fun dz => isB dz fun k =>
  if k = true then wp fc (fun rc r3 => wpO (peek r3 rb) fun db => wpO (peek r3 rc) fun dc => wpO (op' db dc) fun v => QR v r3) E r2 else QR (rvB false) r2) E r1) E ρ := by
 unfold kbl
 simp only [wp_bind, ybn, xl, wp_asB, qax, ya8]
theorem xas {d : D} : peek ρ (.dat d) = some d := rfl
theorem zas {ds : List D} : peek ρ (.new (.lst ds)) = some (.lst ds) := rfl
theorem kas {i : Nat} : peek ρ (.bor i) = (match ρ[i]? with | some c => cdat c | none => none) := rfl
theorem xav {d : D} : cdat (.dat d) = some d := rfl
theorem zav {ds : List D} : cdat (.own (.lst ds)) = some (.lst ds) := rfl
theorem wp_nil : wp fNil QRs E ρ ↔ QRs [] ρ := Iff.rfl
theorem wa9 {fa : P Rv} {fr : P (List Rv)} : wp (yd fa fr) QRs E ρ ↔ wp fa (fun ra r1 => wp fr (fun rs r2 => QRs (ra :: rs) r2) E r1) E ρ := by
 unfold yd
 simp only [wp_bind, xl]
theorem wae : jv ρ [] = some [] := rfl
theorem kad {r : Rv} {rs : List Rv} {Q : List D → Prop} : wpO (jv ρ (r :: rs)) Q ↔ wpO (peek ρ r) fun d => wpO (jv ρ rs) fun ds => Q (d :: ds) := by
 unfold wpO
 simp only [jv]
 cases peek ρ r with
 | none => exact Iff.rfl
 | some d => cases jv ρ rs <;> exact Iff.rfl
def wpG (ρ : En) (r : Rv) (QD : D → En → Prop) : Prop := match grab ρ r with
 | some (d, ρ') => QD d ρ'
 | none => False
theorem wp_grab {fa : P Rv} : wp (xt fa) QD E ρ ↔ wp fa (fun r r1 => wpG r1 r QD) E ρ := by
 unfold xt
 rw [wp_bind]
 have h : ∀ r r1, wp (grab1 r) QD E r1 ↔ wpG r1 r QD := fun r r1 => by
  unfold wp grab1 wpG
  cases grab r1 r with
  | none => exact Iff.rfl
  | some z => exact Iff.rfl
 simp only [h]
theorem xba {d : D} : wpG ρ (.dat d) QD ↔ QD d ρ := Iff.rfl
theorem zba {ds : List D} : wpG ρ (.new (.lst ds)) QD ↔ QD (.lst ds) ρ := Iff.rfl
def borQ (i : Nat) (QD : D → En → Prop) (ρ : En) : Cell → Prop
 | .no => False
 | .dat d => QD d ρ
 | .own (.lst ds) => QD (.lst ds) (ρ.set i (.dat (.lst ds)))
 | .own (.ob c fs) => QD (.obj c fs) (ρ.set i (.dat (.obj c fs)))
 | .own (.dk _) => False
 | .own (.dt _) => False
 | .own (.dn _ _ _) => False
theorem yav {i : Nat} {d : D} : borQ i QD ρ (.dat d) ↔ QD d ρ := Iff.rfl
theorem vav {i : Nat} {ds : List D} : borQ i QD ρ (.own (.lst ds)) ↔ QD (.lst ds) (ρ.set i (.dat (.lst ds))) := Iff.rfl
theorem ya7 : wp vNil QDs E ρ ↔ QDs [] ρ := Iff.rfl
theorem vaq {fa : P Rv} {fr : P (List D)} : wp (ya fa fr) QDs E ρ ↔ wp fa (fun ra r1 => wpG r1 ra fun d r2 => wp fr (fun ds r3 => QDs (d :: ds) r3) E r2) E ρ := by
 unfold ya
 simp only [wp_bind, xl, wp_grab]
theorem wp_tup {g : P (List D)} : wp (fTup g) QR E ρ ↔ wp g (fun ds r => ds.length ≤ sizeLine ∧ QR (.dat (.tup ds)) r) E ρ := by
 unfold fTup
 simp only [wp_bind, ya8, x7]
theorem wp_lst {g : P (List D)} : wp (fLst g) QR E ρ ↔ wp g (fun ds r => ds.length ≤ sizeLine ∧ QR (.new (.lst ds)) r) E ρ := by
 unfold fLst
 simp only [wp_bind, ya8, x7]
theorem wp_cb {op : List D → Option Rv} {fs : P (List Rv)} : wp (fCB op fs) QR E ρ ↔ wp fs (fun rs r => wpO (jv r rs) fun ds => wpO (op ds) fun v => QR v r) E ρ := by
 unfold fCB
 simp only [wp_bind, wp_pks, ya8]
def isS (d : D) (Q : Str → Prop) : Prop := match d with
 | .s (.str b) => Q b
 | _ => False
theorem vbe {b : Str} {Q : Str → Prop} : isS (.s (.str b)) Q ↔ Q b := Iff.rfl
theorem wp_m1 {op : Str → D → Option Rv} {fo fe : P Rv} : wp (fM1 op fo fe) QR E ρ ↔ wp fo (fun ro r1 => wpO (peek r1 ro) fun d => isS d fun a => wp fe (fun re r2 => wpO (peek r2 re) fun x => wpO (op a x) fun v => QR v r2) E r1) E ρ := by
 unfold fM1
 simp only [wp_bind, qax]
 have h : ∀ (d : D) (r1 : En), wp (match d with
  | .s (.str a) => fe.bind fun re => pk1 re fun x => P.of (op a x)
  | _ => P.fail) QR E r1 ↔ isS d fun a => wp fe (fun re r2 => wpO (peek r2 re) fun x => wpO (op a x) fun v => QR v r2) E r1 := fun d r1 => by
  unfold isS
  cases d with
  | s x => cases x <;> first | (simp only [wp_bind, qax, ya8]; done) | exact Iff.rfl
  | _ => exact Iff.rfl
 exact qe fun ro r1 => jax fun d => h d r1
def isZ (d : D) (Q : Int → Prop) : Prop := match d with
 | .s (.int i) => Q i
 | _ => False
theorem kbe {b : Int} {Q : Int → Prop} : isZ (.s (.int b)) Q ↔ Q b := Iff.rfl
theorem wp_zno : wp zNo QI E ρ ↔ QI none ρ := Iff.rfl
theorem wp_zat {f : P Rv} : wp (zAt f) QI E ρ ↔ wp f (fun r r1 => wpO (peek r1 r) fun d => isZ d fun i => QI (some i) r1) E ρ := by
 unfold zAt
 rw [wp_bind]
 have h : ∀ r r1, wp (asI r) QI E r1 ↔ wpO (peek r1 r) fun d => isZ d fun i => QI (some i) r1 := fun r r1 => by
  unfold wp asI wpO isZ
  cases peek r1 r with
  | none => exact Iff.rfl
  | some d =>
   cases d with
   | s x => cases x <;> exact Iff.rfl
   | _ => exact Iff.rfl
 simp only [h]
theorem wp_sl {fo : P Rv} {lo hi : P (Option Int)} : wp (fSl fo lo hi) QR E ρ ↔ wp fo (fun ro r1 => wp lo (fun l r2 => wp hi (fun h r3 => wpO (peek r3 ro) fun d => wpO (slD d l h) fun v => QR v r3) E r2) E r1) E ρ := by
 unfold fSl
 simp only [wp_bind, qax, ya8]
theorem qa9 : wp xq QF E ρ ↔ QF .next ρ := Iff.rfl
theorem wp_brk : wp sBrk QF E ρ ↔ QF .brk ρ := Iff.rfl
theorem ya9 : wp sCont QF E ρ ↔ QF .cont ρ := Iff.rfl
def onN (fl : Fl) (r : En) (N : En → Prop) (Q : Fl → En → Prop) : Prop := match fl with
 | .next => N r
 | f => Q f r
theorem was {r : En} {N : En → Prop} {Q : Fl → En → Prop} : onN .next r N Q ↔ N r := Iff.rfl
theorem jbc {v : Rv} {r : En} {N : En → Prop} {Q : Fl → En → Prop} : onN (.ret v) r N Q ↔ Q (.ret v) r := Iff.rfl
theorem zbc {r : En} {N : En → Prop} {Q : Fl → En → Prop} : onN .brk r N Q ↔ Q .brk r := Iff.rfl
theorem qat {r : En} {N : En → Prop} {Q : Fl → En → Prop} : onN .cont r N Q ↔ Q .cont r := Iff.rfl
theorem wp_seq {g h : P Fl} : wp (sSeq g h) QF E ρ ↔ wp g (fun fl r => onN fl r (wp h QF E) QF) E ρ := by
 unfold sSeq
 rw [wp_bind]
 have e : ∀ (fl : Fl) (r : En), wp (match fl with | .next => h | f => P.ret f) QF E r ↔ onN fl r (wp h QF E) QF := fun fl r => by cases fl <;> exact Iff.rfl
 exact qe e
theorem wp_sif {c : P Bool} {g h : P Fl} : wp (sIf c g h) QF E ρ ↔ wp c (fun b r => if b = true then wp g QF E r else wp h QF E r) E ρ := by
 unfold sIf
 simp only [wp_bind, ybn]
theorem qa8 {f : P Rv} : wp (sRet f) QF E ρ ↔ wp f (fun v r => QF (.ret v) r) E ρ := by
 unfold sRet
 simp only [wp_bind, xl]
theorem yaq : wp sRetN QF E ρ ↔ QF (.ret (.dat (.s .non))) ρ := Iff.rfl
theorem va9 {f : P Rv} : wp (ybb f) QF E ρ ↔ wp f (fun _ r => QF .next r) E ρ := by
 unfold ybb
 simp only [wp_bind, xl]
theorem wp_set {i : Nat} {f : P Rv} : wp (sSet i f) QF E ρ ↔ wp f (fun v r => wpG r v fun d r2 => i < r2.length ∧ QF .next (r2.set i (.dat d))) E ρ := by
 unfold sSet
 simp only [wp_bind, wp_grab]
 have h : ∀ (d : D) (r : En), wp (putD i d) QF E r ↔ i < r.length ∧ QF .next (r.set i (.dat d)) := fun d r => by
  unfold wp putD
  by_cases h : i < r.length
  ·rw [if_pos h]; exact ⟨fun q => ⟨h, q⟩, fun q => q.2⟩
  ·rw [if_neg h]; exact ⟨fun q => q.elim, fun q => h q.1⟩
 simp only [h]
def isM (v : Rv) (Q : M → Prop) : Prop := match v with
 | .new m => Q m
 | _ => False
theorem wbe {m : M} {Q : M → Prop} : isM (.new m) Q ↔ Q m := Iff.rfl
theorem ja8 {i : Nat} {f : P Rv} : wp (zbj i f) QF E ρ ↔ wp f (fun v r => isM v fun m => i < r.length ∧ QF .next (r.set i (.own m))) E ρ := by
 unfold zbj
 rw [wp_bind]
 have h : ∀ (v : Rv) (r : En), wp (putM i v) QF E r ↔ isM v fun m => i < r.length ∧ QF .next (r.set i (.own m)) := fun v r => by
  unfold wp putM isM
  cases v with
  | dat d => exact Iff.rfl
  | bor j => exact Iff.rfl
  | new m =>
   dsimp only
   by_cases h : i < r.length
   ·rw [if_pos h]; exact ⟨fun q => ⟨h, q⟩, fun q => q.2⟩
   ·rw [if_neg h]; exact ⟨fun q => q.elim, fun q => h q.1⟩
 simp only [h]
def yay (Q : List D → Prop) : Cell → Prop
 | .own (.lst ds) => Q ds
 | _ => False
theorem xag {ds : List D} {Q : List D → Prop} : yay Q (.own (.lst ds)) ↔ Q ds := Iff.rfl
theorem vak {i : Nat} {k : List D → P α} : wp (ownL i k) Q E ρ ↔ atS ρ i (yay fun ds => wp (k ds) Q E ρ) := by
 unfold wp ownL atS
 cases ρ[i]? with
 | none => exact Iff.rfl
 | some c =>
  cases c with
  | own m => cases m <;> exact Iff.rfl
  | _ => exact Iff.rfl
theorem qad {i : Nat} {fe : P Rv} : wp (fAppend i fe) QR E ρ ↔ atS ρ i (yay fun _ => wp fe (fun v r => wpG r v fun d r2 => atS r2 i (yay fun ds => ds.length < sizeLine ∧ QR (.dat (.s .non)) (r2.set i (.own (.lst (ds ++ [d])))))) E ρ) := by
 unfold fAppend
 simp only [vak, wp_bind, wp_grab]
 have h : ∀ (d : D) (ds : List D) (r : En), wp (if ds.length < sizeLine then setL i (ds ++ [d]) (.dat (.s .non)) else P.fail) QR E r ↔ ds.length < sizeLine ∧ QR (.dat (.s .non)) (r.set i (.own (.lst (ds ++ [d])))) := fun d ds r => by
  by_cases h : ds.length < sizeLine
  ·rw [if_pos h]; exact ⟨fun q => ⟨h, q⟩, fun q => q.2⟩
  ·rw [if_neg h]; exact ⟨fun q => q.elim, fun q => h q.1⟩
 simp only [h]
theorem zr {i : Nat} {Q1 Q2 : Cell → Prop} (h : ∀ c, Q1 c ↔ Q2 c) : atS ρ i Q1 ↔ atS ρ i Q2 := by
 unfold atS
 cases ρ[i]? with
 | none => exact Iff.rfl
 | some c => exact h c
theorem yl {c : Cell} {Q1 Q2 : List D → Prop} (h : ∀ ds, Q1 ds ↔ Q2 ds) : yay Q1 c ↔ yay Q2 c := by
 cases c with
 | own m => cases m with
  | lst ds => exact h ds
  | dk _ => exact Iff.rfl
  | dt _ => exact Iff.rfl
  | dn _ _ _ => exact Iff.rfl
  | ob _ _ => exact Iff.rfl
 | _ => exact Iff.rfl
theorem zbi {r : Rv} {Q1 Q2 : D → En → Prop} (h : ∀ d e, Q1 d e ↔ Q2 d e) : wpG ρ r Q1 ↔ wpG ρ r Q2 := by
 unfold wpG
 cases grab ρ r with
 | none => exact Iff.rfl
 | some z => exact h _ _
theorem za9 {i k : Nat} {c : Int} : wp (sIncL i k c) QF E ρ ↔ atS ρ i (yay fun ds => wpO ds[k]? fun d => isZ d fun n => QF .next (ρ.set i (.own (.lst (ds.set k (.s (.int (n + c)))))))) := by
 unfold sIncL
 simp only [vak]
 have h : ∀ (ds : List D), wp (match ds[k]? with | some (.s (.int n)) => setL i (ds.set k (.s (.int (n + c)))) .next | _ => P.fail) QF E ρ ↔ wpO ds[k]? fun d => isZ d fun n => QF .next (ρ.set i (.own (.lst (ds.set k (.s (.int (n + c))))))) := fun ds => by
  unfold wpO isZ
  cases ds[k]? with
  | none => exact Iff.rfl
  | some d =>
   cases d with
   | s x => cases x <;> exact Iff.rfl
   | _ => exact Iff.rfl
 exact zr fun c => yl h
def datQ (Q : D → Prop) : Cell → Prop
 | .dat d => Q d
 | _ => False
theorem q7 {d : D} {Q : D → Prop} : datQ Q (.dat d) ↔ Q d := Iff.rfl
end
end PL
namespace PL
open PySem L2
section
variable {α β : Type} {Q : α → En → Prop} {QR : Rv → En → Prop} {QB : Bool → En → Prop} {QF : Fl → En → Prop} {QD : D → En → Prop} {QDs : List D → En → Prop} {QRs : List Rv → En → Prop} {QA : List Arg → En → Prop} {E : Exn → En → Prop} {ρ : En}
def one1 (ds : List D) (Q : D → Prop) : Prop := match ds with
 | [d] => Q d
 | _ => False
def two2 (ds : List D) (Q : D → D → Prop) : Prop := match ds with
 | [d, e] => Q d e
 | _ => False
theorem yas {d : D} {Q : D → Prop} : one1 [d] Q ↔ Q d := Iff.rfl
theorem war {d e : D} {Q : D → D → Prop} : two2 [d, e] Q ↔ Q d e := Iff.rfl
def isL (d : D) (Q : List D → Prop) : Prop := match d with
 | .lst ds => Q ds
 | _ => False
theorem qbf {ds : List D} {Q : List D → Prop} : isL (.lst ds) Q ↔ Q ds := Iff.rfl
theorem wp_ext {i : Nat} {f : P Rv} : wp (sExt i f) QF E ρ ↔ atS ρ i (yay fun _ => wp f (fun v r => wpO (peek r v) fun d => isL d fun es => atS r i (yay fun ds => ds.length + es.length ≤ sizeLine ∧ QF .next (r.set i (.own (.lst (ds ++ es)))))) E ρ) := by
 unfold sExt
 simp only [vak, wp_bind]
 refine zr fun c => yl fun _ => qe fun v r => ?_
 show wp (fun ρ => match peek ρ v with
  | some (.lst es) => (ownL i fun ds => if ds.length + es.length ≤ sizeLine then setL i (ds ++ es) .next else P.fail) ρ
  | _ => none) QF E r ↔ _
 cases q : peek r v with
 | none => unfold wp wpO; simp only [q]
 | some d =>
  cases d with
  | lst es =>
   have e1 : wp (fun ρ => match peek ρ v with
    | some (.lst es) => (ownL i fun ds => if ds.length + es.length ≤ sizeLine then setL i (ds ++ es) .next else P.fail) ρ
    | _ => none) QF E r ↔ wp (ownL i fun ds => if ds.length + es.length ≤ sizeLine then setL i (ds ++ es) .next else P.fail) QF E r := by unfold wp; simp only [q]
   refine e1.trans ?_
   rw [vak]
   show _ ↔ atS r i _
   refine zr fun c => yl fun ds => ?_
   by_cases h : ds.length + es.length ≤ sizeLine
   ·rw [if_pos h]; exact ⟨fun q => ⟨h, q⟩, fun q => q.2⟩
   ·rw [if_neg h]; exact ⟨fun q => q.elim, fun q => h q.1⟩
  | _ => unfold wp wpO; simp only [q, isL]
theorem wa7 : wp uNil QA E ρ ↔ QA [] ρ := Iff.rfl
theorem wp_ud {f : P Rv} {g : P (List Arg)} : wp (uD f g) QA E ρ ↔ wp f (fun v r => wpG r v fun d r2 => wp g (fun as r3 => QA (.inl d :: as) r3) E r2) E ρ := by
 unfold uD
 simp only [wp_bind, xl, wp_grab]
def ownQ (Q : M → Prop) : Cell → Prop
 | .own m => Q m
 | _ => False
theorem vas {m : M} {Q : M → Prop} : ownQ Q (.own m) ↔ Q m := Iff.rfl
theorem wp_um {i : Nat} {g : P (List Arg)} : wp (uM i g) QA E ρ ↔ atS ρ i (ownQ fun _ => wp g (fun as r3 => QA (.inr i :: as) r3) E ρ) := by
 unfold uM
 rw [wp_bind]
 simp only [wp_bind, xl]
 unfold wp uM.ownS atS
 cases ρ[i]? with
 | none => exact Iff.rfl
 | some c => cases c <;> exact Iff.rfl
theorem wac {n : Nat} {F : P Rv} {as : List Arg} : wp (yam n F as) QR E ρ ↔ ((slotsOf as).Nodup ∧ as.length = n) ∧ wpO (cellsOf ρ as) fun cs => wp F (fun r cs' => QR r (jl ρ as cs')) (fun e cs' => E e (jl ρ as cs')) cs := by
 unfold wp yam wpO
 by_cases h : (slotsOf as).Nodup ∧ as.length = n
 ·rw [if_pos h]
  cases cellsOf ρ as with
  | none => exact ⟨fun q => q.elim, fun q => q.2⟩
  | some cs =>
   dsimp only
   cases F cs with
   | none => exact ⟨fun q => q.elim, fun q => q.2⟩
   | some o => cases o <;> exact ⟨fun q => ⟨h, q⟩, fun q => q.2⟩
 ·rw [if_neg h]
  exact ⟨fun q => q.elim, fun q => h q.1⟩
theorem wp_call {n : Nat} {F : P Rv} {fs : P (List Arg)} : wp (zk n F fs) QR E ρ ↔ wp fs (fun as r => ((slotsOf as).Nodup ∧ as.length = n) ∧ wpO (cellsOf r as) fun cs => wp F (fun v cs' => QR v (jl r as cs')) (fun e cs' => E e (jl r as cs')) cs) E ρ := by
 unfold zk
 simp only [wp_bind, wac]
theorem kae : slotsOf [] = [] := rfl
theorem yae {d : D} {as : List Arg} : slotsOf (.inl d :: as) = slotsOf as := rfl
theorem vae {i : Nat} {as : List Arg} : slotsOf (.inr i :: as) = i :: slotsOf as := rfl
theorem kaj : cellsOf ρ [] = some [] := rfl
theorem yaj {d : D} {as : List Arg} {Q : List Cell → Prop} : wpO (cellsOf ρ (.inl d :: as)) Q ↔ wpO (cellsOf ρ as) fun cs => Q (.dat d :: cs) := by
 unfold wpO
 simp only [cellsOf]
 cases cellsOf ρ as <;> exact Iff.rfl
theorem vaj {i : Nat} {as : List Arg} {Q : List Cell → Prop} : wpO (cellsOf ρ (.inr i :: as)) Q ↔ atS ρ i (ownQ fun m => wpO (cellsOf ρ as) fun cs => Q (.own m :: cs)) := by
 unfold wpO atS
 simp only [cellsOf]
 cases ρ[i]? with
 | none => exact Iff.rfl
 | some c =>
  cases c with
  | own m => cases cellsOf ρ as <;> exact Iff.rfl
  | _ => exact Iff.rfl
theorem qaw {cs : List Cell} : jl ρ [] cs = ρ := rfl
theorem zaw {d : D} {as : List Arg} {c : Cell} {cs : List Cell} : jl ρ (.inl d :: as) (c :: cs) = jl ρ as cs := rfl
theorem jaw {i : Nat} {as : List Arg} {c : Cell} {cs : List Cell} : jl ρ (.inr i :: as) (c :: cs) = (jl ρ as cs).set i c := rfl
def endQ (fx : List Nat) (cs : List Cell) (QR : Rv → En → Prop) (fl : Fl) (r : En) : Prop := match fl with
 | .ret v => wpO (handed cs.length r v) fun v' => wpO (merge fx 0 cs r) fun cs' => QR v' cs'
 | .next => wpO (merge fx 0 cs r) fun cs' => QR (.dat (.s .non)) cs'
 | _ => False
theorem wau {fx : List Nat} {cs : List Cell} {v : Rv} {r : En} : endQ fx cs QR (.ret v) r ↔ wpO (handed cs.length r v) fun v' => wpO (merge fx 0 cs r) fun cs' => QR v' cs' := Iff.rfl
theorem vai {fx : List Nat} {cs : List Cell} {r : En} : endQ fx cs QR .next r ↔ wpO (merge fx 0 cs r) fun cs' => QR (.dat (.s .non)) cs' := Iff.rfl
theorem wp_run {fx : List Nat} {N : Nat} {body : P Fl} {cs : List Cell} : wp (runF fx N body) QR E cs ↔ wp body (endQ fx cs QR) (fun e r => wpO (merge fx 0 cs r) fun cs' => E e cs') (cs ++ List.replicate (N - cs.length) .no) := by
 unfold wp runF
 cases body (cs ++ List.replicate (N - cs.length) .no) with
 | none => exact Iff.rfl
 | some o =>
  cases o with
  | ex e r =>
   dsimp only
   unfold wpO
   cases merge fx 0 cs r <;> exact Iff.rfl
  | ok fl r =>
   cases fl with
   | next =>
    dsimp only
    unfold endQ wpO
    cases merge fx 0 cs r <;> exact Iff.rfl
   | brk => exact Iff.rfl
   | cont => exact Iff.rfl
   | ret v =>
    dsimp only
    simp only [endQ, wpO]
    cases handed cs.length r v with
    | none => exact Iff.rfl
    | some v' => dsimp only; cases merge fx 0 cs r <;> exact Iff.rfl
theorem yaf {fx : List Nat} {k : Nat} {r : En} : merge fx k [] r = some [] := by unfold merge; rfl
theorem jag {fx : List Nat} {k : Nat} {d : D} {c : Cell} {cs : List Cell} {r : En} {Q : List Cell → Prop} : wpO (merge fx k (.dat d :: cs) (c :: r)) Q ↔ wpO (merge fx (k + 1) cs r) fun x => Q (.dat d :: x) := by
 unfold wpO
 simp only [merge]
 cases merge fx (k + 1) cs r <;> exact Iff.rfl
theorem waf {fx : List Nat} {k : Nat} {m m' : M} {cs : List Cell} {r : En} {Q : List Cell → Prop} : wpO (merge fx k (.own m :: cs) (.own m' :: r)) Q ↔ k ∈ fx ∧ wpO (merge fx (k + 1) cs r) fun x => Q (.own m' :: x) := by
 unfold wpO
 simp only [merge]
 by_cases h : k ∈ fx
 ·rw [if_pos h]
  cases merge fx (k + 1) cs r with
  | none => exact ⟨fun q => q.elim, fun q => q.2⟩
  | some x => exact ⟨fun q => ⟨h, q⟩, fun q => q.2⟩
 ·rw [if_neg h]
  exact ⟨fun q => q.elim, fun q => h q.1⟩
theorem y6 {n : Nat} {d : D} : handed n ρ (.dat d) = some (.dat d) := rfl
theorem x6 {n : Nat} {m : M} : handed n ρ (.new m) = some (.new m) := rfl
def handQ (n i : Nat) (Q : Rv → Prop) : Cell → Prop
 | .no => False
 | .dat d => Q (.dat d)
 | .own m => n ≤ i ∧ Q (.new m)
theorem kah {n i : Nat} {d : D} {Q : Rv → Prop} : handQ n i Q (.dat d) ↔ Q (.dat d) := Iff.rfl
theorem xah {n i : Nat} {m : M} {Q : Rv → Prop} : handQ n i Q (.own m) ↔ n ≤ i ∧ Q (.new m) := Iff.rfl
theorem ja9 {f : P Rv} : wp (xab f) QDs E ρ ↔ wp f (fun v r => wpG r v fun d r2 => wpO (walked d) fun ds => QDs ds r2) E ρ := by
 unfold xab
 simp only [wp_bind, wp_grab, ya8]
theorem j5 {ds : List D} : walked (.lst ds) = some ds := rfl
theorem x4 {ds : List D} : walked (.tup ds) = some ds := rfl
theorem yad {ds : List D} : walked (.ro ds) = some ds := rfl
theorem w4 {z : Str} : walked (.s (.str z)) = some (ya4 z) := rfl
theorem za8 {fs : P (List Rv)} : wp (fRng1 fs) QDs E ρ ↔ wp fs (fun rs r => wpO (jv r rs) fun ds => one1 ds fun d => isZ d fun j => inBd j = true ∧ QDs (rngD 0 j.toNat) r) E ρ := by
 unfold fRng1
 rw [wp_bind]
 simp only [wp_pks]
 refine qe fun rs r => jax fun ds => ?_
 match ds with
 | [] => exact Iff.rfl
 | d :: e :: t => cases d with
  | s x => cases x <;> exact Iff.rfl
  | _ => exact Iff.rfl
 | [d] =>
  cases d with
  | s x =>
   cases x with
   | int j =>
    show wp (if inBd j = true then P.ret (rngD 0 j.toNat) else P.fail) QDs E r ↔ inBd j = true ∧ QDs (rngD 0 j.toNat) r
    by_cases h : inBd j = true
    ·rw [if_pos h]; exact ⟨fun q => ⟨h, q⟩, fun q => q.2⟩
    ·rw [if_neg h]; exact ⟨fun q => q.elim, fun q => h q.1⟩
   | _ => exact Iff.rfl
  | _ => exact Iff.rfl
def isLL (d : D) (Q : List D → Prop) : Prop := match d with
 | .lst ds => Q ds
 | .ro ds => Q ds
 | _ => False
theorem xau {ds : List D} {Q : List D → Prop} : isLL (.lst ds) Q ↔ Q ds := Iff.rfl
theorem jbf {ds : List D} {Q : List D → Prop} : isLL (.ro ds) Q ↔ Q ds := Iff.rfl
def pairL (d e : D) (Q : List D → List D → Prop) : Prop := match d, e with
 | .lst xs, .lst ys => Q xs ys
 | .tup xs, .tup ys => Q xs ys
 | _, _ => False
theorem jaf {xs ys : List D} {Q : List D → List D → Prop} : pairL (.lst xs) (.lst ys) Q ↔ Q xs ys := Iff.rfl
theorem qaf {xs ys : List D} {Q : List D → List D → Prop} : pairL (.tup xs) (.tup ys) Q ↔ Q xs ys := Iff.rfl
def turnQ (fl : Fl) (r : En) (N : En → Prop) (QF : Fl → En → Prop) : Prop := match fl with
 | .next => N r
 | .cont => N r
 | .brk => QF .next r
 | .ret v => QF (.ret v) r
theorem z5 {r : En} {N : En → Prop} : turnQ .next r N QF ↔ N r := Iff.rfl
theorem x5 {r : En} {N : En → Prop} : turnQ .cont r N QF ↔ N r := Iff.rfl
theorem qae {r : En} {N : En → Prop} : turnQ .brk r N QF ↔ QF .next r := Iff.rfl
theorem wad {v : Rv} {r : En} {N : En → Prop} : turnQ (.ret v) r N QF ↔ QF (.ret v) r := Iff.rfl
theorem jbi {fi : P (List D)} {a : Tgt} {body : P Fl} : wp (sFor fi a body) QF E ρ ↔ wp fi (fun ds r => wp (zag a body ds) QF E r) E ρ := by
 unfold sFor
 rw [wp_bind]
theorem qbi {a : Tgt} {body : P Fl} {d : D} {ds : List D} : wp (zag a body (d :: ds)) QF E ρ ↔ wpO (a d ρ) fun r1 => wp body (fun fl r2 => turnQ fl r2 (wp (zag a body ds) QF E) QF) E r1 := by
 show wp (fun ρ => match a d ρ with
  | none => none
  | some ρ1 => jf (body ρ1) fun f => match f with
   | .next => zag a body ds
   | .cont => zag a body ds
   | .brk => P.ret .next
   | .ret r => P.ret (.ret r)) QF E ρ ↔ _
 unfold wpO
 cases q : a d ρ with
 | none => unfold wp; simp only [q]
 | some r1 =>
  unfold wp
  simp only [q]
  cases q2 : body r1 with
  | none => exact Iff.rfl
  | some o =>
   cases o with
   | ex e r => exact Iff.rfl
   | ok fl r => cases fl <;> exact Iff.rfl
theorem vbn {a : Tgt} {body : P Fl} {ds : List D} (I : Nat → En → Prop) (h0 : I 0 ρ) (hs : ∀ i d r, ds[i]? = some d → I i r → wpO (a d r) fun r1 => wp body (fun fl r2 => turnQ fl r2 (I (i + 1)) QF) E r1) (hd : ∀ r, I ds.length r → QF .next r) : wp (zag a body ds) QF E ρ := by
 have key : ∀ (n i : Nat) (r : En), n = ds.length - i → i ≤ ds.length → I i r → wp (zag a body (ds.drop i)) QF E r := by
  intro n
  induction n with
  | zero =>
   intro i r hn hi h
   have : i = ds.length := by omega
   subst this
   rw [List.drop_length]
   exact hd r h
  | succ n ih =>
   intro i r hn hi h
   have hlt : i < ds.length := by omega
   have hg := List.getElem?_eq_getElem hlt
   rw [qav hg, qbi]
   have hh := hs i _ r hg h
   unfold wpO at hh ⊢
   cases q : a ds[i] r with
   | none => rw [q] at hh; exact hh
   | some r1 =>
    rw [q] at hh
    refine wp_mono hh (fun fl r2 z => ?_) fun _ _ z => z
    cases fl with
    | next => exact ih (i + 1) r2 (by omega) hlt z
    | cont => exact ih (i + 1) r2 (by omega) hlt z
    | brk => exact z
    | ret v => exact z
 have := key ds.length 0 ρ (by omega) (Nat.zero_le _) h0
 rwa [List.drop_zero] at this
abbrev EF : Exn → En → Prop := fun _ _ => False
theorem qba {vs : List Nat} {fi : P (List D)} {a : Tgt} {tests : P Bool} {elt : P Rv} : wp (vy vs fi a tests elt) QR E ρ ↔ wp fi (fun ds r => wpO (jac vs a tests elt ds [] (yg r vs)) fun z => QR (.new (.lst z.1)) (waa r z.2 vs)) E ρ := by
 unfold vy
 rw [wp_bind]
 refine qe fun ds r => ?_
 unfold wp wpO
 dsimp only
 cases jac vs a tests elt ds [] (yg r vs) <;> exact Iff.rfl
theorem comp_loop {vs : List Nat} {a : Tgt} {tests : P Bool} {elt : P Rv} {ds acc0 : List D} (I : Nat → List D → En → Prop) (h0 : I 0 acc0 ρ)
  (hs : ∀ i d acc r, ds[i]? = some d → I i acc r → wpO (a d r) fun r1 => wp tests (fun b r2 => if b = true then wp elt (fun v r3 => wpG r3 v fun y r4 => acc.length < sizeLine ∧ I (i + 1) (acc ++ [y]) (yg r4 vs)) EF r2 else I (i + 1) acc (yg r2 vs)) EF r1) :
  ∃ acc r, jac vs a tests elt ds acc0 ρ = some (acc, r) ∧ I ds.length acc r := by
 have key : ∀ (n i : Nat) (acc : List D) (r : En), n = ds.length - i → i ≤ ds.length → I i acc r → ∃ acc' r', jac vs a tests elt (ds.drop i) acc r = some (acc', r') ∧ I ds.length acc' r' := by
  intro n
  induction n with
  | zero =>
   intro i acc r hn hi h
   have : i = ds.length := by omega
   subst this
   rw [List.drop_length]
   exact ⟨acc, r, rfl, h⟩
  | succ n ih =>
   intro i acc r hn hi h
   have hlt : i < ds.length := by omega
   have hg := List.getElem?_eq_getElem hlt
   rw [qav hg]
   have hh := hs i _ acc r hg h
   unfold wpO at hh
   cases q : a ds[i] r with
   | none => rw [q] at hh; exact hh.elim
   | some r1 =>
    rw [q] at hh
    obtain ⟨b, r2, e1, h2⟩ := wp_get hh
    simp only [jac, q, e1]
    cases b with
    | false => exact ih (i + 1) acc _ (by omega) hlt h2
    | true =>
     rw [if_pos rfl] at h2
     have h3 : wp (xt elt) (fun y r4 => acc.length < sizeLine ∧ I (i + 1) (acc ++ [y]) (yg r4 vs)) EF r2 := wp_grab.mpr h2
     obtain ⟨y, r4, e2, h4, h5⟩ := wp_get h3
     simp only [e2, if_pos h4]
     exact ih (i + 1) _ _ (by omega) hlt h5
 have := key ds.length 0 acc0 ρ (by omega) (Nat.zero_le _) h0
 rwa [List.drop_zero] at this
theorem ja4 {α : Type} {o : Option α} {a : α} {Q : α → Prop} (h : o = some a) (q : Q a) : wpO o Q := by rw [h]; exact q
theorem aN_eq {i : Nat} {d : D} {Q : En → Prop} : wpO (aN i d ρ) Q ↔ i < ρ.length ∧ Q (ρ.set i (.dat d)) := x7
theorem aT_tup {n : Nat} {as : List D → En → Option En} {ds : List D} {Q : En → Prop} : wpO (aT n as (.tup ds) ρ) Q ↔ ds.length = n ∧ wpO (as ds ρ) Q := by
 show wpO (if ds.length = n then as ds ρ else none) Q ↔ _
 by_cases h : ds.length = n
 ·rw [if_pos h]; exact ⟨fun q => ⟨h, q⟩, fun q => q.2⟩
 ·rw [if_neg h]; exact ⟨fun q => q.elim, fun q => h q.1⟩
theorem vaw {a : Tgt} {as : List D → En → Option En} {d : D} {ds : List D} {Q : En → Prop} : wpO (zbr a as (d :: ds) ρ) Q ↔ wpO (a d ρ) fun r => wpO (as ds r) Q := by
 unfold wpO
 simp only [zbr]
 cases a d ρ <;> exact Iff.rfl
theorem kbh {Q : En → Prop} : wpO (aNil [] ρ) Q ↔ Q ρ := Iff.rfl
end
end PL
namespace PL
open PySem L2
section
variable {K : PySem.W.Frag} {cs : List Addr}
theorem qm {a b : String} {r : Bool} {x : D} (h : kitB a b = some r) (ht : tyD x = some (.type a)) (hc : ja3 cs x = true) : isiD K cs [x, .s (.ty b)] = some (rvB r) := by
 unfold isiD isiB
 simp only [ht, clsD, if_pos hc, kit_ty h]
variable {b : Bool} {i : Int} {z : Str} {ds : List D}
theorem zf : isiD K cs [.s .non, .s (.ty "str")] = some (rvB false) := qm (a := "NoneType") (by decide +kernel) rfl rfl
theorem zd : isiD K cs [.s .non, .s (.ty "tuple")] = some (rvB false) := qm (a := "NoneType") (by decide +kernel) rfl rfl
theorem ke : isiD K cs [.s .non, .s (.ty "bool")] = some (rvB false) := qm (a := "NoneType") (by decide +kernel) rfl rfl
theorem jk : isiD K cs [.s (.bl b), .s (.ty "str")] = some (rvB false) := qm (a := "bool") (by decide +kernel) rfl rfl
theorem ji : isiD K cs [.s (.bl b), .s (.ty "bool")] = some (rvB true) := qm (a := "bool") (by decide +kernel) rfl rfl
theorem zm : isiD K cs [.s (.int i), .s (.ty "str")] = some (rvB false) := qm (a := "int") (by decide +kernel) rfl rfl
theorem qi : isiD K cs [.s (.int i), .s (.ty "tuple")] = some (rvB false) := qm (a := "int") (by decide +kernel) rfl rfl
theorem qk : isiD K cs [.s (.int i), .s (.ty "bool")] = some (rvB false) := qm (a := "int") (by decide +kernel) rfl rfl
theorem jm : isiD K cs [.s (.str z), .s (.ty "str")] = some (rvB true) := qm (a := "str") (by decide +kernel) rfl rfl
theorem wh : isiD K cs [.s (.str z), .s (.ty "tuple")] = some (rvB false) := qm (a := "str") (by decide +kernel) rfl rfl
theorem wj : isiD K cs [.s (.str z), .s (.ty "bool")] = some (rvB false) := qm (a := "str") (by decide +kernel) rfl rfl
theorem yh : isiD K cs [.tup ds, .s (.ty "str")] = some (rvB false) := qm (a := "tuple") (by decide +kernel) rfl rfl
theorem vh : isiD K cs [.tup ds, .s (.ty "tuple")] = some (rvB true) := qm (a := "tuple") (by decide +kernel) rfl rfl
theorem qh : isiD K cs [.lst ds, .s (.ty "tuple")] = some (rvB false) := qm (a := "list") (by decide +kernel) rfl rfl
theorem q8 : isiD K cs [.ro ds, .s (.ty "bool")] = some (rvB false) := qm (a := "list") (by decide +kernel) rfl rfl
end
theorem mulIB_r {i j : Int} (h : j.natAbs < 18446744073709551616) : xbp i j = true := by unfold xbp; rw [decide_eq_true h, Bool.or_true]
theorem jbd {i j : Int} (h : i.natAbs < 18446744073709551616) : xbp i j = true := by unfold xbp; rw [decide_eq_true h, Bool.true_or]
theorem wal {j : Int} (h1 : -4611686018427387904 ≤ j) (h2 : j < 4611686018427387904) : inBd j = true := by
 unfold inBd
 rw [decide_eq_true (by omega), decide_eq_true (by omega)]; rfl
theorem wat {y : Str} {Q : Rv → Prop} : wpO (lenD [.s (.str y)]) Q ↔ y.length ≤ sizeLine ∧ Q (rvI y.length) := x7
theorem qau {ds : List D} : lenD [.lst ds] = some (rvI ds.length) := rfl
theorem ybd {ds : List D} : lenD [.ro ds] = some (rvI ds.length) := rfl
theorem yat {ds : List D} : lenD [.tup ds] = some (rvI ds.length) := rfl
theorem size_eq : sizeLine = 16777216 := sizeLine_eq
end PL
namespace PL
open PySem L2
section
variable {ds : List D} {i : Int} {z : Str} {Q : Rv → Prop}
theorem zbe : wpO (ixD (.lst ds) (.s (.int i))) Q ↔ wpO (atI ds i) fun d => Q (.dat d) := by
 unfold wpO
 simp only [ixD, items]
 cases atI ds i <;> exact Iff.rfl
theorem ixw_ro : wpO (ixD (.ro ds) (.s (.int i))) Q ↔ wpO (atI ds i) fun d => Q (.dat d) := by
 unfold wpO
 simp only [ixD, items]
 cases atI ds i <;> exact Iff.rfl
theorem qbe : wpO (ixD (.tup ds) (.s (.int i))) Q ↔ wpO (atI ds i) fun d => Q (.dat d) := by
 unfold wpO
 simp only [ixD, items]
 cases atI ds i <;> exact Iff.rfl
theorem jbe : wpO (ixD (.s (.str z)) (.s (.int i))) Q ↔ z.length ≤ sizeLine ∧ wpO (atI z.cps.toList i) fun c => Q (rvS ⟨#[c]⟩) := by
 unfold wpO
 simp only [ixD]
 by_cases h : z.length ≤ sizeLine
 ·rw [if_pos h]
  cases atI z.cps.toList i with
  | none => exact ⟨fun q => q.elim, fun q => q.2⟩
  | some c => exact ⟨fun q => ⟨h, q⟩, fun q => q.2⟩
 ·rw [if_neg h]
  exact ⟨fun q => q.elim, fun q => h q.1⟩
theorem qa2 {α : Type} {xs : List α} {i : Int} (h : 0 ≤ i) : atI xs i = xs[i.toNat]? := by
 unfold atI ixN
 rw [if_pos h]
 by_cases h1 : i < xs.length
 ·rw [if_pos h1]; rfl
 ·rw [if_neg h1, List.getElem?_eq_none (by omega)]; rfl
theorem atI_in {α : Type} {xs : List α} {i : Int} {Q : α → Prop} (h0 : 0 ≤ i) (h1 : i < xs.length) (h : ∀ x ∈ xs, Q x) : wpO (atI xs i) Q := by
 rw [qa2 h0, List.getElem?_eq_getElem (by omega)]
 exact h _ (List.getElem_mem _)
theorem atI_0 {α : Type} {a : α} {l : List α} : atI (a :: l) 0 = some a := by rw [qa2 (by decide)]; rfl
theorem atI_1 {α : Type} {a b : α} {l : List α} : atI (a :: b :: l) 1 = some b := by rw [qa2 (by decide)]; rfl
theorem atI_2 {α : Type} {a b c : α} {l : List α} : atI (a :: b :: c :: l) 2 = some c := by rw [qa2 (by decide)]; rfl
end
end PL
namespace PL
open PySem
abbrev okS (z : Str) : Prop := PyData.strOk z = true
theorem okS_iff {z : Str} : okS z ↔ ∀ c ∈ z.cps.toList, c < 0x110000 := by
 show PyData.strOk z = true ↔ _
 unfold PyData.strOk
 rw [← Array.all_toList, List.all_eq_true]
 exact ⟨fun h c m => of_decide_eq_true (h c m), fun h c m => decide_eq_true (h c m)⟩
theorem jal {a b : Str} (ha : okS a) (hb : okS b) : okS (a ++ b) := by
 rw [okS_iff] at ha hb ⊢
 intro c m
 have m : c ∈ (a.cps ++ b.cps).toList := m
 rw [Array.toList_append, List.mem_append] at m
 rcases m with m | m
 ·exact ha c m
 ·exact hb c m
theorem okS_sub {a : Str} (i j : Nat) (ha : okS a) : okS (Builtin.Str.strSub a i j) := by
 rw [okS_iff] at ha ⊢
 intro c m
 have m : c ∈ (a.cps.extract i j).toList := m
 rw [Array.toList_extract] at m
 exact ha c (List.mem_of_mem_drop (List.mem_of_mem_take m))
theorem okS_strip {a : Str} (y : Str) (ha : okS a) : okS (Txt.stripChars a y) := by
 unfold Txt.stripChars
 rw [PyProof.Rows.stripBy_eq]
 exact okS_sub _ _ ha
theorem len_app {a b : Str} : (a ++ b).length = a.length + b.length := by
 show (a.cps ++ b.cps).size = _
 rw [Array.size_append]
 rfl
section
variable {K : PySem.W.Frag}
theorem w5 {d : D} {a : PyData} (h : toPy d = some a) : shp d = SeqAt.shaped a := by unfold shp; rw [h]
theorem ybo {d : D} {a : PyData} (h : toPy d = some a) : py d = a := by unfold py; rw [h]; rfl
theorem eqB_shp {x y : D} (hx : shp x = true) (hy : shp y = true) : eqB x y = some (PyData.eqv (py x) (py y)) := by
 obtain ⟨h1, h2⟩ := zan hx
 obtain ⟨h3, h4⟩ := zan hy
 unfold eqB
 rw [h1, h3]
 dsimp only
 rw [if_pos (by rw [h2, h4]; rfl)]
theorem eqD_shp {x y : D} (hx : shp x = true) (hy : shp y = true) : eqD x y = some (rvB (PyData.eqv (py x) (py y))) := by
 unfold eqD; rw [eqB_shp hx hy]
theorem zbp {x y : D} (hx : shp x = true) (hy : shp y = true) : neD x y = some (rvB (!PyData.eqv (py x) (py y))) := by
 unfold neD; rw [eqB_shp hx hy]
theorem qal {i : Int} : shp (.s (.int i)) = true := by rw [w5 (a := .int i) rfl]; rfl
theorem shp_bl {i : Bool} : shp (.s (.bl i)) = true := by rw [w5 (a := .bool i) rfl]; rfl
theorem shp_non : shp (.s .non) = true := by rw [w5 (a := .none) rfl]; rfl
theorem shp_str {z : Str} : shp (.s (.str z)) = PyData.strOk z := by
 rw [w5 (a := .str z) rfl]
 show (PyData.canLay0 (.str z) && decide (PyData.depth (.str z) ≤ 64)) = _
 simp [PyData.canLay0, PyData.depth]
theorem kbj {i : Int} : py (.s (.int i)) = .int i := rfl
theorem py_bl {i : Bool} : py (.s (.bl i)) = .bool i := rfl
theorem xbj {i : Str} : py (.s (.str i)) = .str i := rfl
theorem vbf {i j : Int} : eqD (.s (.int i)) (.s (.int j)) = some (rvB (i == j)) := by
 rw [eqD_shp qal qal, kbj, kbj]; simp only [PyData.eqv]
theorem qbd {i j : Int} : neD (.s (.int i)) (.s (.int j)) = some (rvB (!(i == j))) := by
 rw [zbp qal qal, kbj, kbj]; simp only [PyData.eqv]
theorem eqD_str {a b : Str} (ha : okS a) (hb : okS b) : eqD (.s (.str a)) (.s (.str b)) = some (rvB (a == b)) := by
 rw [eqD_shp (shp_str.trans ha) (shp_str.trans hb), xbj, xbj]; simp only [PyData.eqv]
theorem neD_str {a b : Str} (ha : okS a) (hb : okS b) : neD (.s (.str a)) (.s (.str b)) = some (rvB (!(a == b))) := by
 rw [zbp (shp_str.trans ha) (shp_str.trans hb), xbj, xbj]; simp only [PyData.eqv]
def dep (d : D) : Nat := (py d).depth
theorem vv : ∀ {ds : List D}, (∀ d ∈ ds, shp d = true) → xaa ds = some (ds.map py)
 | [], _ => by simp [xaa]
 | d :: ds, h => by
  rw [xaa, (zan (h d List.mem_cons_self)).1, vv fun e m => h e (List.mem_cons_of_mem _ m)]
  rfl
theorem vam : ∀ {ds : List D}, (∀ d ∈ ds, shp d = true) → PyData.canLayAll0 (ds.map py) = true
 | [], _ => by simp [PyData.canLayAll0]
 | d :: ds, h => by
  rw [List.map_cons, PyData.canLayAll0, vam fun e m => h e (List.mem_cons_of_mem _ m), SeqAt.canLay_of_shaped (zan (h d List.mem_cons_self)).2]
  rfl
theorem za0 {n : Nat} : ∀ {ds : List D}, (∀ d ∈ ds, dep d ≤ n) → PyData.depthAll (ds.map py) ≤ n
 | [], _ => by simp [PyData.depthAll]
 | d :: ds, h => by
  rw [List.map_cons, PyData.depthAll]
  have h1 := h d List.mem_cons_self
  have h2 := za0 fun e m => h e (List.mem_cons_of_mem _ m)
  unfold dep at h1
  omega
theorem py_lst {ds : List D} (h : ∀ d ∈ ds, shp d = true) : py (.lst ds) = .list (ds.map py) := ybo (by rw [toPy, vv h])
theorem yw {ds : List D} (h : ∀ d ∈ ds, shp d = true) : py (.tup ds) = .tuple (ds.map py) := ybo (by rw [toPy, vv h])
theorem shp_lst {n : Nat} {ds : List D} (h : ∀ d ∈ ds, shp d = true) (hd : ∀ d ∈ ds, dep d ≤ n) (hn : n ≤ 63) : shp (.lst ds) = true := by
 rw [w5 (a := .list (ds.map py)) (by rw [toPy, vv h])]
 show (PyData.canLay0 (.list (ds.map py)) && decide (PyData.depth (.list (ds.map py)) ≤ 64)) = true
 have := za0 hd
 rw [PyData.canLay0, vam h, decide_eq_true (by rw [PyData.depth]; omega)]; rfl
theorem shp_tup {n : Nat} {ds : List D} (h : ∀ d ∈ ds, shp d = true) (hd : ∀ d ∈ ds, dep d ≤ n) (hn : n ≤ 63) : shp (.tup ds) = true := by
 rw [w5 (a := .tuple (ds.map py)) (by rw [toPy, vv h])]
 show (PyData.canLay0 (.tuple (ds.map py)) && decide (PyData.depth (.tuple (ds.map py)) ≤ 64)) = true
 have := za0 hd
 rw [PyData.canLay0, vam h, decide_eq_true (by rw [PyData.depth]; omega)]; rfl
theorem dep_lst {n : Nat} {ds : List D} (h : ∀ d ∈ ds, shp d = true) (hd : ∀ d ∈ ds, dep d ≤ n) : dep (.lst ds) ≤ n + 1 := by
 unfold dep; rw [py_lst h, PyData.depth]; have := za0 hd; omega
theorem dep_tup {n : Nat} {ds : List D} (h : ∀ d ∈ ds, shp d = true) (hd : ∀ d ∈ ds, dep d ≤ n) : dep (.tup ds) ≤ n + 1 := by
 unfold dep; rw [yw h, PyData.depth]; have := za0 hd; omega
theorem dep_int {i : Int} : dep (.s (.int i)) = 0 := by unfold dep; rw [kbj, PyData.depth]
theorem dep_bl {i : Bool} : dep (.s (.bl i)) = 0 := by unfold dep; rw [py_bl, PyData.depth]
theorem dep_str {i : Str} : dep (.s (.str i)) = 0 := by unfold dep; rw [xbj, PyData.depth]
theorem dep_non : dep (.s .non) = 0 := by unfold dep; rw [show py (.s .non) = .none from rfl, PyData.depth]
theorem ym (xs ys : List PyData) : PyData.eqv (.tuple xs) (.tuple ys) = PyData.eqvAll xs ys := by simp only [PyData.eqv]
end
end PL
namespace PL
open PySem
section
variable {i j : Int} {a b : Str} {p q : Bool} {ds es : List D} {l h : Option Int} {x : D} {Q : Rv → Prop}
theorem lt_int : ltXD (.s (.int i)) (.s (.int j)) = some (rvB (decide (i < j))) := rfl
theorem lt_str : ltXD (.s (.str a)) (.s (.str b)) = some (rvB (strLt a b)) := rfl
theorem le_int : leD (.s (.int i)) (.s (.int j)) = some (rvB (decide (i ≤ j))) := rfl
theorem gt_int : gtD (.s (.int i)) (.s (.int j)) = some (rvB (decide (j < i))) := rfl
theorem ge_int : geD (.s (.int i)) (.s (.int j)) = some (rvB (decide (j ≤ i))) := rfl
theorem kbd : maxD [.s (.int i), .s (.int j)] = some (rvI (if j > i then j else i)) := rfl
theorem xbd : minD [.s (.int i), .s (.int j)] = some (rvI (if j < i then j else i)) := rfl
theorem vat : vbp [.lst ds] = some (.new (.lst ds)) := rfl
theorem kat : vbp [.tup ds] = some (.new (.lst ds)) := rfl
theorem vbd : vbp [.ro ds] = some (.new (.lst ds)) := rfl
theorem vba : jae [.lst ds] = some (.dat (.tup ds)) := rfl
theorem kba : jae [.tup ds] = some (.dat (.tup ds)) := rfl
theorem sl_lst : slD (.lst ds) l h = some (.new (.lst (cutG ds l h))) := rfl
theorem sl_tup : slD (.tup ds) l h = some (.dat (.tup (cutG ds l h))) := rfl
theorem sl_ro : slD (.ro ds) l h = some (.new (.lst (cutG ds l h))) := rfl
theorem sl_str : wpO (slD (.s (.str a)) l h) Q ↔ a.length ≤ sizeLine ∧ Q (rvS (L2.cutS a l h)) := x7
theorem neg_int : negD (.s (.int i)) = some (rvI (-i)) := rfl
theorem is_bl : isD (.s (.bl p)) (.s (.bl q)) = some (rvB (decide (p = q))) := rfl
theorem jah : xaz (.s (.bl p)) (.s (.bl q)) = some (rvB (!decide (p = q))) := rfl
theorem is_none : isD x (.s .non) = some (rvB (isNone x)) := rfl
theorem qt : xaz x (.s .non) = some (rvB (!isNone x)) := rfl
theorem zat : isNone (.s .non) = true := rfl
theorem none_int : isNone (.s (.int i)) = false := rfl
theorem none_str : isNone (.s (.str a)) = false := rfl
theorem ybc : isNone (.s (.bl p)) = false := rfl
theorem xat : isNone (.lst ds) = false := rfl
theorem jat : isNone (.tup ds) = false := rfl
theorem zbh : augAddD (.s (.int i)) (.s (.int j)) = some (rvI (i + j)) := rfl
theorem xbh {d : D} {k : Nat} {r : En} {QF : Fl → En → Prop} : (match (Rv.dat d) with | .dat z => k < r.length ∧ QF .next (r.set k (.dat z)) | _ => False) ↔ k < r.length ∧ QF .next (r.set k (.dat d)) := Iff.rfl
end
end PL
namespace PL
open PySem
section
variable {a b : Str} {ds : List D} {ys : List Str} {Q : Rv → Prop}
theorem xae : wpO (kbi a (.s (.str b))) Q ↔ a.length ≤ sizeLine ∧ Q (rvS (Txt.stripChars a b)) := x7
theorem y5 : startsD a (.s (.str b)) = some (rvB (Txt.startswith a b)) := rfl
theorem yau : endsD a (.s (.str b)) = some (rvB (Txt.endswith a b)) := rfl
end
end PL
namespace PL
open PySem L2
def spLaw (K : PySem.W.Frag) : Sp := fun vs H Q _ => ∃ (a : Addr) (ns : List Int), vs = [.ref a] ∧ SqL K H a (ns.map V.int) ∧ ns.length ≤ 63 ∧ (∀ P, TabP K P → TS1 H P) ∧ ∀ H', Q (.bl true) H'
theorem ints_iss {K : PySem.W.Frag} {C : Hp} : ∀ ns : List Int, Iss K C (ns.map fun i => D.s (.int i)) (ns.map V.int)
 | [] => qf
 | n :: ns => kc is_s (ints_iss ns)
theorem spF_law {F : P Rv} {K : PySem.W.Frag} (hF : ∀ ns : List Int, ns.length ≤ 63 → wp F (fun r _ => r = rvB true) EF [.dat (.ro (ns.map fun i => D.s (.int i)))]) : ∀ vs H Q E, spLaw K vs H Q E → spF K 1 F vs H Q E := by
 rintro vs H Q E ⟨a, ns, rfl, hS, hl, tb, q⟩
 obtain ⟨r, cs', h1, rfl⟩ := wp_get (hF ns hl)
 have ec : Ex (fun b => if b = a then H a else none) H := ⟨fun b o h _ => by
  by_cases hb : b = a
  ·subst hb; simpa using h
  ·simp [hb] at h, fun b h => by
  by_cases hb : b = a
  ·subst hb; simpa using h
  ·simp [hb]⟩
 have hC : SqL K (fun b => if b = a then H a else none) a (ns.map V.int) := by
  rcases hS with (h | ⟨o, h⟩) | h
  ·exact .inl (.inl (by simpa using h))
  ·exact .inl (.inr ⟨o, by simpa using h⟩)
  ·exact .inr h
 refine ⟨rfl, _, _, _, ⟨rfl, ec, fun i c h => ?_, fun i j m n b h => ?_, tb⟩, h1, fun r' cs2 z => ?_, fun e cs2 z => by cases z⟩
 ·cases i with
  | zero =>
   have h : Cell.dat (.ro (ns.map fun i => D.s (.int i))) = c := by simpa using h
   subst h
   exact ⟨_, rfl, _, rfl, is_ro_iff.mpr ⟨a, _, rfl, hC, ints_iss ns⟩⟩
  | succ i => simp at h
 ·cases i with
  | zero => simp at h
  | succ i => simp at h
 ·cases z
  refine ⟨rfl, fun v C' H' p k => ?_⟩
  have e : v = .bl true := is_s_iff.mp (show Is K C' (.s (.bl true)) v from k)
  rw [e]
  exact q H'
theorem def_fn {P : Program} {w : World} {K : PySem.W.Frag} {mg : Str → Option Value} {base : Heap} {k n : Nat} {x qual : Str} {st : Stmt} {f : Addr} {fd : FuncData} {N ps : List Str} {fx : List Nat} {body : PL.P Fl} (F : Fun K x qual st f fd) (S : FnScope N ps (defScope st)) (hn : ps.length = n) (hN : n ≤ N.length)
  (hbody : ∀ (cdv : Value) (A : Around) (outer : List PySem.Env) (s : Shared) (H : Hp) (E : XK), CtxOk (fun _ : Unit => cxOf (L2.CX P w) P w K mg base N qual (defScope st) f cdv A outer s H E) P w K mg base k (WB E) N (defScope st) →
   BSs (fun _ : Unit => cxOf (L2.CX P w) P w K mg base N qual (defScope st) f cdv A outer s H E) K (WB E) fx (defBody st) body) : FnOk P w K mg base (L2.CX P w) (k + 1) f fd ps (spF K n (runF fx N.length body)) :=
 fn_ok F S hn hN fun cdv A outer s H E hr => by
  obtain ⟨t, h1, h2⟩ := hbody cdv A outer s H E ⟨fun _ => rfl, fun _ => rfl, fun _ => rfl, fun _ => rfl, fun _ => rfl, fun _ => hr, fun _ => takes_of rfl rfl rfl rfl, fun _ => rfl, fun _ => passes_of rfl, fun _ => rfl, fun _ => rfl, S.nd⟩
  exact ⟨t, h1 (), h2⟩
end PL
namespace PL
open PySem L2 PySem.Spec PyProof.Rows
section
variable {X : Cx} {CX : CXT} {k : Nat} {f C : Addr} {fd : FuncData} {ps : List Str} {sp : Sp} {E : L2.St → XK} {x m : Str} {p pos apos : Pos} {e o : Expr} {es : List Expr} {ta : TE} {t : TA}
theorem run_makeS {pins : List (Addr × Obj)} {σ : L2.St} {H : Hp} {s : Shared} {Q : VK} {us : List Value} {vs : List V} (M : Mk X.K C f) (F : FnOk X.prog X.w X.K X.mg X.base CX k f fd ps sp) (hr : Room (k + 1) X.A) (hb : Binds X.K fd ps [])
  (hx : PassesAt CX X σ (E σ)) (I : Inv X pins σ H s) (r : Vals vs us)
  (h : ∀ x dx, H x = none → H dx = none → dx ≠ x → sp (.ref x :: vs) (upd (upd H dx (.own x)) x (.ins C dx [])) (fun v H2 => v = .non ∧ Q (.ref x) H2) (E σ)) :
  wpAny (model X.prog X.w) X.A (call (.ref C) us) (EP X pins σ Q) X.xe s := by
 have hq := h (s.heap.objs.size + 1) s.heap.objs.size (I.hok.fresh (Nat.le_succ _)) (I.hok.fresh (Nat.le_refl _)) (Nat.ne_of_lt (Nat.lt_succ_self _))
 have I2 := Inv.made (C := C) I
 have r2 : Vals (V.ref (s.heap.objs.size + 1) :: vs) (Value.ref (s.heap.objs.size + 1) :: us) := .cons rfl r
 have hl : (Value.ref (s.heap.objs.size + 1) :: us ++ []).length = ps.length := by
  have e := r2.length
  rw [F.len _ _ _ _ hq] at e
  rw [List.append_nil]
  exact e.symm
 have hb2 := hb _ (Value.ref (s.heap.objs.size + 1) :: us) I2.kIn hl
 rw [List.append_nil] at hb2
 refine wpAny_call (make_map (f := f) I.kIn M.makes M.init (beq_iff_eq.mp M.fn) (codeAny_mono (F.run _ X.stack _ _ ⟨Value.ref (s.heap.objs.size + 1) :: us, []⟩ (Value.ref (s.heap.objs.size + 1) :: us) _ _ (E σ) (hr.make C us [])
  (I2.env0.make C us []) hb2 r2 hq) fun r s' hq' => ?_))
 cases r with
 | error e => exact hx pins _ _ e s' I2 hq'
 | ok fl =>
  cases fl with
  | ret u =>
   obtain ⟨v, H', I3, rv, ev, q3⟩ := I2.after hq'
   subst ev
   exact ⟨rv, ⟨V.ref (s.heap.objs.size + 1), H', I3, rfl, q3⟩⟩
  | next => exact False.elim hq'
  | brk => exact False.elim hq'
  | cont => exact False.elim hq'
def xbi (C : Addr) (sp : Sp) (E : L2.St → XK) (t : TA) : TE := fun σ H Q => t σ H fun vs H1 => ∀ x dx, H1 x = none → H1 dx = none → dx ≠ x →
 sp (.ref x :: vs) (upd (upd H1 dx (.own x)) x (.ins C dx [])) (fun v H2 => v = .non ∧ Q (.ref x) H2) (E σ)
theorem pe_makeS (M : Mk X.K C f) (F : FnOk X.prog X.w X.K X.mg X.base CX k f fd ps sp) (hr : Room (k + 1) X.A) (hg : Gl X x) (hm : X.mg x = some (.ref C)) (hb : Binds X.K fd ps []) (hx : ∀ σ, PassesAt CX X σ (E σ))
  (ha : PA X (e :: es) t) (hdb : (x == ("__debug__" : Str)) = false := by decide) (he : starEach (e :: es) X.env = (false, eval e X.env) :: starEach es X.env := by rfl) (hpl : (backTo pos (starEach es X.env)).any (·.1) = false := by rfl) :
  PE X (.Call (.Name x p) (e :: es) [] pos) (xbi C sp E t) := by
 refine ⟨fun pins s σ H Q I h => ?_⟩
 refine wpAny_Call_Name_kw (ld_glob I hg hm ?_ hdb)
 refine PySem.W.callWith_K (h₀ := X.base) I.ok.mod.kin M.kp (thn (ha.run pos pins s σ H _ I h) fun us s1 ⟨vs, H1, I1, r, q⟩ => ⟨I1.kIn, ?_⟩) he hpl
 exact run_makeS M F hr hb (hx σ) I1 r q
end
def putG {α : Type} (f : Str) (v : α) : List (Str × α) → List (Str × α)
 | [] => [(f, v)]
 | (g, x) :: r => if g = f then (g, v) :: r else (g, x) :: putG f v r
theorem isf_put {K : PySem.W.Frag} {C : Hp} {f : Str} {d : D} {v : V} (h : Is K C d v) : ∀ {fs : List (Str × D)} {gs : List (Str × V)}, Isf K C fs gs → Isf K C (putG f d fs) (L2.putF f v gs)
 | [], gs, i => by rw [isf_nil_iff.mp i]; exact z6 h jaz
 | (g, x) :: r, gs, i => by
  obtain ⟨y, t, rfl, h1, h2⟩ := isf_cons_iff.mp i
  unfold putG L2.putF
  by_cases c : g = f
  ·rw [if_pos c, if_pos c]; exact z6 h h2
  ·rw [if_neg c, if_neg c]; exact z6 h1 (isf_put h h2)
theorem yal {K : PySem.W.Frag} {C : Hp} : ∀ {fs : List (Str × D)} {gs : List (Str × V)}, Isf K C fs gs → gs.length = fs.length
 | [], gs, i => by rw [isf_nil_iff.mp i]; rfl
 | (g, x) :: r, gs, i => by
  obtain ⟨y, t, rfl, h1, h2⟩ := isf_cons_iff.mp i
  rw [List.length_cons, List.length_cons, yal h2]
def fldD (cs : List Addr) (f : Str) : D → Option Rv
 | .obj c fs => if cs.contains c = true then (match fs.lookup f with
  | some d => some (.dat d)
  | none => none) else none
 | _ => none
section
variable {K : PySem.W.Frag}
theorem ok_fld {cs : List Addr} {f : Str} (hc : ∀ c, cs.contains c = true → Cls K c ∧ NoAttr K c f) : R1Ok K (fun x H Q => ∃ a C dx fs v, x = .ref a ∧ H a = some (.ins C dx fs) ∧ Cls K C ∧ NoAttr K C f ∧ fs.lookup f = some v ∧ Q v H) (fldD cs f) := by
 intro C H e dx x rv Q h hx g
 unfold fldD at h
 split at h
 ·rename_i c fs
  obtain ⟨a, dx, gs, rfl, h1, h2⟩ := pk_obj e hx
  by_cases q : cs.contains c = true
  ·rw [if_pos q] at h
   cases q2 : fs.lookup f with
   | none => rw [q2] at h; cases h
   | some d =>
    rw [q2] at h
    cases h
    obtain ⟨v, h3, h4⟩ := Isf.lookup h2 q2
    exact ⟨a, c, dx, gs, v, rfl, h1, (hc c q).1, (hc c q).2, h3, g.same e h4⟩
  ·rw [if_neg q] at h; cases h
 ·cases h
end
section
variable {ι : Type} {X : ι → Cx} {P : Program} {w : World} {K : PySem.W.Frag} {mg : Str → Option Value} {base : Heap} {k : Nat} {W : WX} {N : List Str} {sc : Scope} {e : Expr} {pos : Pos} {fe : PL.P Rv} {f : Str}
theorem kg {cs : List Addr} (B : CtxOk X P w K mg base k W N sc) (hc : ∀ c, cs.contains c = true → Cls K c ∧ NoAttr K c f) (he : BE X K W e fe) (hb : ∀ i, attributeBase e f (X i).env (eval e (X i).env) = eval e (X i).env := by intro _; rfl) : BE X K W (.Attribute e f pos) (fUn (fldD cs f) fe) := by
 obtain ⟨t, p, s⟩ := he
 exact ⟨_, fun i => by have := @pe_fld (X i) e f pos t (p i) (hb i); rw [B.pK i] at this; exact this, sd_un (ok_fld hc) s⟩
end
def ownO (i : Nat) {α : Type} (k : Addr → List (Str × D) → PL.P α) : PL.P α := fun ρ => match ρ[i]? with
 | some (.own (.ob c fs)) => k c fs ρ
 | _ => none
def setO (i : Nat) {α : Type} (c : Addr) (fs : List (Str × D)) (a : α) : PL.P α := fun ρ => some (.ok a (ρ.set i (.own (.ob c fs))))
def qv (cs : List Addr) (i : Nat) (f : Str) (fe : PL.P Rv) : PL.P Fl := (xt fe).bind fun d => ownO i fun c fs => if cs.contains c = true ∧ fs.length < 1000 then setO i c (putG f d fs) .next else PL.P.fail
section
variable {K : PySem.W.Frag} {W : WX} {fx : List Nat}
theorem ss_setF {cs : List Addr} {i : Nat} {f : Str} {te : TE} {fe : PL.P Rv} (hc : ∀ c, cs.contains c = true → Cls K c ∧ NoAttr K c f) (he : Sd K W (VRel K) te fe) : SdS K W fx (sFld K (tVar i) te f) (qv cs i f fe) := by
 intro σ C H ρ out D e ho m
 refine xp (zw he) e ho m fun d ρ1 y C1 H1 p r z => ?_
 unfold ownO at z
 cases q : ρ1[i]? with
 | none => rw [q] at z; cases z
 | some c =>
  rw [q] at z
  cases c with
  | no => cases z
  | dat d => cases z
  | own mm =>
   cases mm with
   | lst ds => cases z
   | dk kvs => cases z
   | dt kvs => cases z
   | dn _ _ _ => cases z
   | ob c fs =>
    dsimp only at z
    by_cases g : cs.contains c = true ∧ fs.length < 1000
    ·rw [if_pos g] at z
     cases z
     obtain ⟨a, o, h1, h2, h3, dx, gs, rfl, h4⟩ := xaf p.env q
     refine ⟨.ref a, h1, a, c, dx, gs, rfl, h3, (hc c g.1).1, (hc c g.1).2, by rw [yal h4]; exact g.2, ?_⟩
     exact m σ C1 _ ((PostS.of p).trans (PostS.of (zac (m' := .ob c (putG f d fs)) p.env q h1 ⟨dx, _, rfl, isf_put r h4⟩)))
    ·rw [if_neg g] at z; cases z
end
section
variable {ι : Type} {X : ι → Cx} {P : Program} {w : World} {K : PySem.W.Frag} {mg : Str → Option Value} {base : Heap} {k : Nat} {W : WX} {N : List Str} {sc : Scope} {e : Expr} {pos p p2 : Pos} {fe : PL.P Rv} {f x : Str} {fx : List Nat}
theorem ve {cs : List Addr} (B : CtxOk X P w K mg base k W N sc) (n : Nat) (hc : ∀ c, cs.contains c = true → Cls K c ∧ NoAttr K c f) (he : BE X K W e fe) (hN : N[n]? = some x := by rfl) (hv : Vis sc x := by first | exact Or.inl rfl | exact Or.inr (Or.inl rfl) | exact Or.inr (Or.inr rfl)) (hd : (x == ("__debug__" : Str)) = false := by decide)
  (hcd : (x == ("__classdict__" : Str)) = false := by decide) (hs : ∀ i, swapsWith e (some (.Attribute (.Name x p) f p2)) pos.line (X i).env = pure false := by intro _; rfl) : BS X K W fx (.Assign [.Attribute (.Name x p) f p2] e pos) (qv cs n f fe) := by
 obtain ⟨t, q, s⟩ := he
 exact ⟨_, fun i => by have := @ps_fld (X i) (.Name x p) e f pos p2 _ _ (pe_var (B.at_ hN i) (B.vis hv i) hd hcd) (q i) (hs i); rw [B.pK i] at this; exact this, ss_setF hc s⟩
end
def made (n : Nat) (C : Addr) (F : PL.P Rv) (ds : List D) : PL.P Rv := fun ρ => if ds.length = n then (match F (.own (.ob C []) :: ds.map .dat) with
 | some (.ok (.dat (.s .non)) (.own (.ob c fs) :: _)) => some (.ok (.new (.ob c fs)) ρ)
 | some (.ex e _) => some (.ex e ρ)
 | _ => none) else none
def kam (n : Nat) (C : Addr) (F : PL.P Rv) (g : PL.P (List D)) : PL.P Rv := g.bind (made n C F)
section
variable {K : PySem.W.Frag} {W : WX}
theorem EnvOk.making {C0 H : Hp} {C x dx : Addr} {vs : List V} {ds : List D} (tb : ∀ P, TabP K P → TS1 H P) (ec : Ex C0 H) (h : Iss K C0 ds vs) (hx : H x = none) (hdx : H dx = none) (hne : dx ≠ x) :
  EnvOk K C0 (upd (upd H dx (.own x)) x (.ins C dx [])) ((V.ref x :: vs).map some) (.own (.ob C []) :: ds.map .dat) := by
 have e2 : Ex C0 (upd (upd H dx (.own x)) x (.ins C dx [])) := ec.trans ((Ex.new hdx).trans (Ex.new (by rw [upd_ne (Ne.symm hne)]; exact hx)))
 refine ⟨by simp [h.length], e2, fun i c q => ?_, fun i j m m' a q1 q2 => ?_, fun P hP => yak (jw (tb P hP) hdx) fun u z => by rw [upd_ne (Ne.symm hne), hx] at z; cases z⟩
 ·cases i with
  | zero =>
   have q : Cell.own (.ob C []) = c := by simpa using q
   subst q
   refine ⟨some (.ref x), by simp, x, _, rfl, ?_, upd_same, dx, [], rfl, jaz⟩
   cases z : C0 x with
   | none => rfl
   | some o => have := ec.2 x hx; rw [z] at this; cases this
  | succ i =>
   have q : (ds.map Cell.dat)[i]? = some c := by simpa using q
   rw [List.getElem?_map] at q
   cases z : ds[i]? with
   | none => rw [z] at q; cases q
   | some d =>
    rw [z] at q
    cases q
    obtain ⟨v, h1, h2⟩ := h.get z
    exact ⟨some v, by simp [h1], v, rfl, h2⟩
 ·have only : ∀ (i : Nat) (m : M), (Cell.own (.ob C []) :: ds.map .dat)[i]? = some (.own m) → i = 0 := fun i m q => by
   cases i with
   | zero => rfl
   | succ i =>
    have q : (ds.map Cell.dat)[i]? = some (.own m) := by simpa using q
    rw [List.getElem?_map] at q
    cases z : ds[i]? with
    | none => rw [z] at q; cases q
    | some d => rw [z] at q; cases q
  intro _ _
  rw [only i m q1, only j m' q2]
theorem sd_make {n : Nat} {C : Addr} {F : PL.P Rv} {t : TA} {g : PL.P (List D)} (hg : Sd K W (j4 K) t g) : Sd K W (VRel K) (xbi C (spF K (n + 1) F) (WE W) t) (kam n C F g) := by
 intro σ C0 H ρ e
 show At K W (VRel K H) σ C0 H ρ (fun H Q => t σ H fun vs H1 => ∀ x dx, H1 x = none → H1 dx = none → dx ≠ x → spF K (n + 1) F (.ref x :: vs) (upd (upd H1 dx (.own x)) x (.ins C dx [])) (fun v H2 => v = .non ∧ Q (.ref x) H2) (WE W σ)) (jf (g ρ) (made n C F))
 refine At.bind (tk := fun (vs : List V) (H1 : Hp) (Q : VK) => ∀ x dx, H1 x = none → H1 dx = none → dx ≠ x → spF K (n + 1) F (.ref x :: vs) (upd (upd H1 dx (.own x)) x (.ins C dx [])) (fun v H2 => v = .non ∧ Q (.ref x) H2) (WE W σ)) (hg σ C0 H ρ e) fun ds ρ1 vs C1 H1 p1 r1 => ?_
 intro out Q ho hok hex x dx hx hdx hne
 have r1 : Iss K C1 ds vs := r1
 unfold made at ho
 by_cases hn : ds.length = n
 ·rw [if_pos hn] at ho
  have ee := EnvOk.making (C := C) p1.env.tab p1.env.ext r1 hx hdx hne
  -- what stays
  have own0 : ∀ (b : Addr), qc ((V.ref x :: vs).map some) (.own (.ob C []) :: ds.map .dat) b → b = x := fun b ⟨i, m, q1, q2⟩ => by
   cases i with
   | zero => simpa using q2.symm
   | succ i =>
    have q : (ds.map Cell.dat)[i]? = some (.own m) := by simpa using q1
    rw [List.getElem?_map] at q
    cases z : ds[i]? with
    | none => rw [z] at q; cases q
    | some d => rw [z] at q; cases q
  have st : ∀ {C' H' : Hp}, Step C1 (upd (upd H1 dx (.own x)) x (.ins C dx [])) C' H' (qc ((V.ref x :: vs).map some) (.own (.ob C []) :: ds.map .dat)) → Step C1 H1 C' H' (fun _ => False) := fun {C' H'} s => by
   refine ⟨s.core, s.ext, fun b o hb nt _ => ?_, fun b h1 h2 => ?_, fun b h => ?_, fun P h => s.tabs P (yak (jw h hdx) fun u z => by rw [upd_ne (Ne.symm hne), hx] at z; cases z)⟩
   ·have n1 : b ≠ x := fun z => by rw [z, hx] at hb; cases hb
    have n2 : b ≠ dx := fun z => by rw [z, hdx] at hb; cases hb
    exact s.keep b o (by rw [upd_ne n1, upd_ne n2]; exact hb) nt fun z => n1 (own0 b z)
   ·rcases s.new b h1 h2 with z | z
    ·by_cases n1 : b = x
     ·exact .inl (by rw [n1]; exact hx)
     ·by_cases n2 : b = dx
      ·exact .inl (by rw [n2]; exact hdx)
      ·rw [upd_ne n1, upd_ne n2] at z; exact .inl z
    ·exact .inl (by rw [own0 b z]; exact hx)
   ·have z := s.dom b h
    by_cases n1 : b = x
    ·rw [n1]; exact hx
    ·by_cases n2 : b = dx
     ·rw [n2]; exact hdx
     ·rw [upd_ne n1, upd_ne n2] at z; exact z
  cases q : F (.own (.ob C []) :: ds.map .dat) with
  | none => rw [q] at ho; cases ho
  | some o =>
   rw [q] at ho
   refine ⟨by simp [r1.length, hn], C1, _, o, ee, q, fun r cs' z => ?_, fun x2 cs' z d C' H' p k => ?_⟩
   ·subst z
    match r, cs', ho with
    | .dat (.s .non), .own (.ob c fs) :: rest, ho =>
     have ho : some (Out.ok (Rv.new (.ob c fs)) ρ1) = some out := ho
     cases ho
     refine ⟨rfl, fun v C' H' p k => ⟨is_s_iff.mp (show Is K C' (.s .non) v from k), ?_⟩⟩
     obtain ⟨u, hu, a, o, h1, h2, h3, h4⟩ := p.env.cell 0 _ rfl
     have hu : some (V.ref x) = u := by simpa using hu
     subst hu
     cases h1
     refine hok _ _ rfl (.ref x) C' H' (Post.of_step p1.env (st p.step)) ⟨x, o, rfl, h2, h3, h4, fun ⟨i, m, z1, z2⟩ => ?_, p1.step.dom x hx⟩
     obtain ⟨b, o', y1, y2, y3, y4⟩ := xaf p1.env z1
     rw [z2] at y1; cases y1
     rw [hx] at y3; cases y3
   ·subst z
    have ho : some (Out.ex x2 ρ1) = some out := ho
    cases ho
    exact hex x2 _ rfl d C' H' (Post.of_step p1.env (st p.step)) k
 ·rw [if_neg hn] at ho; cases ho
end
end PL
namespace PL
open PySem L2 PySem.Spec PyProof.Rows PySem.W
structure Bare (K : PySem.W.Frag) (C : Addr) : Prop where
 makes : PySem.W.makesIn K C = true
 init : PySem.W.findIn K (.ref C) "__init__" = some (some (.builtin "object.__init__"))
 top : PySem.W.mroIn K C (.type "object") = some true
 kp : PySem.W.keepIn K (.ref C) = true
def tBare (C : Addr) : TE := fun σ H Q => ∀ x dx, H x = none → H dx = none → dx ≠ x → Q (.ref x) (upd (upd H dx (.own x)) x (.ins C dx []))
section
variable {X : Cx} {C : Addr} {x : Str} {p pos : Pos}
theorem pe_bare (M : Bare X.K C) (hg : Gl X x) (hm : X.mg x = some (.ref C)) (hdb : (x == ("__debug__" : Str)) = false := by decide) : PE X (.Call (.Name x p) [] [] pos) (tBare C) := by
 refine ⟨fun pins s σ H Q I h => ?_⟩
 refine wpAny_Call_Name_kw (ld_glob I hg hm ?_ hdb)
 refine PySem.W.callWith_K0 I.kIn M.kp ?_
 have hq := h (s.heap.objs.size + 1) s.heap.objs.size (I.hok.fresh (Nat.le_succ _)) (I.hok.fresh (Nat.le_refl _)) (Nat.ne_of_lt (Nat.lt_succ_self _))
 have I2 := Inv.made (C := C) I
 refine wpAny_call (make_map0 I.kIn M.makes M.init (fun self => Looks.of_pure (oi_bind _)) ?_)
 have ho : Heap.get? ((s.heap.push PySem.W.emptyDict).push (PySem.W.instObj C s.heap.objs.size)) (s.heap.objs.size + 1) = some (PySem.W.instObj C s.heap.objs.size) := by
  have := Heap.get?_push_size (s.heap.push PySem.W.emptyDict) (o := PySem.W.instObj C s.heap.objs.size) rfl
  rwa [Heap.size_push] at this
 have t1 : Looks (model X.prog X.w) ((s.heap.push PySem.W.emptyDict).push (PySem.W.instObj C s.heap.objs.size)) (typeOf (.ref (s.heap.objs.size + 1))) (.ref C) := (Looks.ld ho).andThen .now
 have t2 : Looks (model X.prog X.w) ((s.heap.push PySem.W.emptyDict).push (PySem.W.instObj C s.heap.objs.size)) (isInstance (.ref (s.heap.objs.size + 1)) (.type "object")) true := t1.andThen (looks_mroIn I2.kIn M.top)
 refine codeAny_call_builtin oi_plain entry_oi (@check_slot (model X.prog X.w) _ _ _ "object.__init__" "object" "__init__" (.ref (s.heap.objs.size + 1)) [] [] _ oi_kind oi_split t2 (NwA.oi_args_any (.ref (s.heap.objs.size + 1)) [] []) ?_)
 rw [oi_run]
 refine wpAny_pure ?_
 exact And.intro rfl ⟨V.ref (s.heap.objs.size + 1), _, I2, rfl, hq⟩
end
def fBare (C : Addr) : PL.P Rv := fun ρ => some (.ok (.new (.ob C [])) ρ)
section
variable {K : PySem.W.Frag} {W : WX}
theorem sd_bare {C : Addr} : Sd K W (VRel K) (tBare C) (fBare C) := by
 intro σ C0 H ρ e out Q ho hok hex x dx hx hdx hne
 cases ho
 have hx2 : upd H dx (.own x) x = none := by rw [upd_ne (Ne.symm hne)]; exact hx
 have s1 : Step C0 H C0 (upd H dx (.own x)) (fun _ => False) := Step.newM e.ext hdx
 have s2 : Step C0 (upd H dx (.own x)) C0 (upd (upd H dx (.own x)) x (.ins C dx [])) (fun _ => False) := Step.newM s1.ext hx2
 have s := s1.trans s2 fun _ z => z.elim
 refine hok _ _ rfl (.ref x) C0 _ (Post.of_step e s) ⟨x, _, rfl, e.ext.none hx, upd_same, ⟨dx, [], rfl, jaz⟩, fun ⟨i, m, z1, z2⟩ => ?_, hx⟩
 obtain ⟨b, o', y1, y2, y3, y4⟩ := xaf e z1
 rw [z2] at y1; cases y1
 rw [hx] at y3; cases y3
end
structure ka7 (P : Program) (w : World) (K : PySem.W.Frag) (mg : Str → Option Value) (base : Heap) (k : Nat) (x : Str) (n : Nat) (C : Addr) (F : PL.P Rv) : Prop where
 ex : ∃ (f : Addr) (fd : FuncData) (ps : List Str), FnOk P w K mg base (L2.CX P w) k f fd ps (spF K (n + 1) F) ∧ Mk K C f ∧ mg x = some (.ref C) ∧ Binds K fd ps []
section
variable {ι : Type} {X : ι → Cx} {P : Program} {w : World} {K : PySem.W.Frag} {mg : Str → Option Value} {base : Heap} {k : Nat} {W : WX} {N : List Str} {sc : Scope}
variable {a b c e o : Expr} {es : List Expr} {pos p p2 apos tpos : Pos} {x m : Str} {fa fb fc fe fo : PL.P Rv} {gd : PL.P (List D)} {ga : PL.P (List Arg)}
theorem pe_makeE {X : Cx} {f C : Addr} {fd : FuncData} {ps : List Str} {sp : Sp} {t : TA} (h1 : X.prog = P) (h2 : X.w = w) (h3 : X.K = K) (h4 : X.mg = mg) (h5 : X.base = base) (tk : Takes X W) (M : Mk K C f) (F : FnOk P w K mg base (L2.CX P w) k f fd ps sp) (hr : Room (k + 1) X.A) (hg : Gl X x) (hm : mg x = some (.ref C))
  (hb : Binds K fd ps []) (ha : PA X (e :: es) t) (hdb : (x == ("__debug__" : Str)) = false) (he : starEach (e :: es) X.env = (false, eval e X.env) :: starEach es X.env) (hpl : (backTo pos (starEach es X.env)).any (·.1) = false) :
  PE X (.Call (.Name x p) (e :: es) [] pos) (xbi C sp (WE W) t) := by
 subst h1 h2 h3 h4 h5
 exact pe_makeS M F hr hg hm hb (fun σ => passAt tk σ) ha hdb he hpl
theorem ka1 {n : Nat} {C : Addr} {F : PL.P Rv} (B : CtxOk X P w K mg base (k + 1) W N sc) (hF : ka7 P w K mg base k x n C F) (ha : BAd X K W (e :: es) gd) (hg : sc.names.lookup x = some .globalImplicit := by rfl) (hdb : (x == ("__debug__" : Str)) = false := by decide)
  (he : ∀ i, starEach (e :: es) (X i).env = (false, eval e (X i).env) :: starEach es (X i).env := by intro _; rfl) (hpl : ∀ i, (backTo pos (starEach es (X i).env)).any (·.1) = false := by intro _; rfl) : BE X K W (.Call (.Name x p) (e :: es) [] pos) (kam n C F gd) := by
 obtain ⟨ta, pa, sa⟩ := ha
 obtain ⟨f, fd, ps, h1, h2, h3, h4⟩ := hF.ex
 exact ⟨_, fun i => pe_makeE (B.pP i) (B.pw i) (B.pK i) (B.pm i) (B.pb i) (B.tk i) h2 h1 (B.room i) (B.gl hg i) h3 h4 (pa i) hdb (he i) (hpl i), sd_make sa⟩
theorem be_bare {C : Addr} (B : CtxOk X P w K mg base k W N sc) (M : Bare K C) (hm : mg x = some (.ref C)) (hg : sc.names.lookup x = some .globalImplicit := by rfl) (hdb : (x == ("__debug__" : Str)) = false := by decide) : BE X K W (.Call (.Name x p) [] [] pos) (fBare C) :=
 ⟨_, fun i => pe_bare (by rw [B.pK i]; exact M) (B.gl hg i) (by rw [B.pm i]; exact hm) hdb, sd_bare⟩
theorem qbn {C : Addr} (B : CtxOk X P w K mg base k W N sc) (hm : mg x = some (.ref C)) (hg : sc.names.lookup x = some .globalImplicit := by rfl) (hd : (x == ("__debug__" : Str)) = false := by decide) : BE X K W (.Name x pos) (fC (.s (.ref C))) :=
 be_glob B hm (show RelV (.ref C) (.ref C) from rfl) hg hd
end
end PL
namespace PL
open PySem L2
theorem con0 {p : Addr → Prop} : ∀ c, ([] : List Addr).contains c = true → p c := fun c h => by simp at h
theorem con1 {p : Addr → Prop} {a : Addr} {l : List Addr} (h : p a) (t : ∀ c, l.contains c = true → p c) : ∀ c, (a :: l).contains c = true → p c := fun c q => by
 rw [List.contains_cons, Bool.or_eq_true] at q
 rcases q with q | q
 ·rw [beq_iff_eq.mp q]; exact h
 ·exact t c q
section
variable {QR : Rv → En → Prop} {QF : Fl → En → Prop} {QD : D → En → Prop} {E : Exn → En → Prop} {ρ : En}
theorem peek_ob {c : Addr} {fs : List (Str × D)} : peek ρ (.new (.ob c fs)) = some (.obj c fs) := rfl
theorem cdat_ob {c : Addr} {fs : List (Str × D)} : cdat (.own (.ob c fs)) = some (.obj c fs) := rfl
theorem wpG_ob {c : Addr} {fs : List (Str × D)} : wpG ρ (.new (.ob c fs)) QD ↔ QD (.obj c fs) ρ := Iff.rfl
theorem borQ_ob {i : Nat} {c : Addr} {fs : List (Str × D)} : borQ i QD ρ (.own (.ob c fs)) ↔ QD (.obj c fs) (ρ.set i (.dat (.obj c fs))) := Iff.rfl
def obQ (Q : Addr → List (Str × D) → Prop) : Cell → Prop
 | .own (.ob c fs) => Q c fs
 | _ => False
theorem obQ_ob {c : Addr} {fs : List (Str × D)} {Q : Addr → List (Str × D) → Prop} : obQ Q (.own (.ob c fs)) ↔ Q c fs := Iff.rfl
theorem wp_ownO {α : Type} {i : Nat} {k : Addr → List (Str × D) → P α} {Q : α → En → Prop} : wp (ownO i k) Q E ρ ↔ atS ρ i (obQ fun c fs => wp (k c fs) Q E ρ) := by
 unfold wp ownO atS
 cases ρ[i]? with
 | none => exact Iff.rfl
 | some c =>
  cases c with
  | own m => cases m <;> exact Iff.rfl
  | _ => exact Iff.rfl
theorem obQ_congr {c : Cell} {Q1 Q2 : Addr → List (Str × D) → Prop} (h : ∀ a fs, Q1 a fs ↔ Q2 a fs) : obQ Q1 c ↔ obQ Q2 c := by
 cases c with
 | own m => cases m with
  | ob a fs => exact h a fs
  | dk _ => exact Iff.rfl
  | dt _ => exact Iff.rfl
  | dn _ _ _ => exact Iff.rfl
  | lst _ => exact Iff.rfl
 | _ => exact Iff.rfl
theorem wp_setF {cs : List Addr} {i : Nat} {f : Str} {fe : P Rv} : wp (qv cs i f fe) QF E ρ ↔ wp fe (fun v r => wpG r v fun d r2 => atS r2 i (obQ fun c fs => (cs.contains c = true ∧ fs.length < 1000) ∧ QF .next (r2.set i (.own (.ob c (putG f d fs)))))) E ρ := by
 unfold qv
 simp only [wp_bind, wp_grab, wp_ownO]
 refine qe fun v r => zbi fun d r2 => zr fun c => obQ_congr fun a fs => ?_
 by_cases h : cs.contains a = true ∧ fs.length < 1000
 ·rw [if_pos h]; exact ⟨fun q => ⟨h, q⟩, fun q => q.2⟩
 ·rw [if_neg h]; exact ⟨fun q => q.elim, fun q => h q.1⟩
def madeQ (v : Rv) (cs : En) (Q : Addr → List (Str × D) → Prop) : Prop := match v, cs with
 | .dat (.s .non), .own (.ob c fs) :: _ => Q c fs
 | _, _ => False
theorem madeQ_ob {c : Addr} {fs : List (Str × D)} {r : En} {Q : Addr → List (Str × D) → Prop} : madeQ (.dat (.s .non)) (.own (.ob c fs) :: r) Q ↔ Q c fs := Iff.rfl
theorem wp_make {n : Nat} {C : Addr} {F : P Rv} {g : P (List D)} : wp (kam n C F g) QR E ρ ↔ wp g (fun ds r => ds.length = n ∧ wp F (fun v cs => madeQ v cs fun c fs => QR (.new (.ob c fs)) r) (fun e _ => E e r) (.own (.ob C []) :: ds.map .dat)) E ρ := by
 unfold kam
 rw [wp_bind]
 refine qe fun ds r => ?_
 unfold wp made
 by_cases h : ds.length = n
 ·rw [if_pos h]
  cases F (.own (.ob C []) :: ds.map .dat) with
  | none => exact ⟨fun q => q.elim, fun q => q.2⟩
  | some o =>
   cases o with
   | ex e _ => exact ⟨fun q => ⟨h, q⟩, fun q => q.2⟩
   | ok v cs =>
    have key : ∀ Z : Prop, (Z ↔ madeQ v cs (fun c fs => QR (.new (.ob c fs)) r)) → (Z ↔ ds.length = n ∧ madeQ v cs (fun c fs => QR (.new (.ob c fs)) r)) := fun Z k => k.trans ⟨fun q => ⟨h, q⟩, fun q => q.2⟩
    refine key _ ?_
    cases v with
    | new m => exact Iff.rfl
    | bor i => exact Iff.rfl
    | dat d =>
     cases d with
     | s x =>
      cases x with
      | non =>
       cases cs with
       | nil => exact Iff.rfl
       | cons c cs =>
        cases c with
        | own m => cases m <;> exact Iff.rfl
        | _ => exact Iff.rfl
      | _ => exact Iff.rfl
     | _ => exact Iff.rfl
 ·rw [if_neg h]; exact ⟨fun q => q.elim, fun q => h q.1⟩
theorem wp_bare {C : Addr} : wp (fBare C) QR E ρ ↔ QR (.new (.ob C [])) ρ := Iff.rfl
theorem kj {cs : List Addr} {c : Addr} {fs : List (Str × D)} {f : Str} {d : D} {Q : Rv → Prop} (h : cs.contains c = true) (h2 : fs.lookup f = some d) : wpO (fldD cs f (.obj c fs)) Q ↔ Q (.dat d) := by
 have e : fldD cs f (.obj c fs) = some (.dat d) := by
  show (if cs.contains c = true then _ else _) = _
  rw [if_pos h, h2]
 rw [e]; exact Iff.rfl
theorem kal {K : PySem.W.Frag} {cs : List Addr} {c b : Addr} {fs : List (Str × D)} {r : Bool} (h : cs.contains c = true) (k : PySem.W.kitOne K (.ref c) (.ref b) = some r) : isiD K cs [.obj c fs, .s (.ref b)] = some (rvB r) := by
 unfold isiD isiB
 simp only [tyD, clsD, ja3, h, if_true, k]
theorem isi_objT {K : PySem.W.Frag} {cs : List Addr} {c : Addr} {T : String} {fs : List (Str × D)} {r : Bool} (h : cs.contains c = true) (k : PySem.W.kitOne K (.ref c) (.type T) = some r) : isiD K cs [.obj c fs, .s (.ty T)] = some (rvB r) := by
 unfold isiD isiB
 simp only [tyD, clsD, ja3, h, if_true, k]
theorem ze {K : PySem.W.Frag} {cs : List Addr} {b : Addr} {d : D} {t : String} {r : Bool} (ht : tyD d = some (.type t)) (ho : ja3 cs d = true) (k : PySem.W.kitOne K (.type t) (.ref b) = some r) : isiD K cs [d, .s (.ref b)] = some (rvB r) := by
 unfold isiD isiB
 simp only [ht, clsD, ho, if_true, k]
theorem none_obj {a : Addr} {fs : List (Str × D)} : isNone (.obj a fs) = false := rfl
end
end PL
namespace PL
open PySem L2 PySem.Spec PyProof.Rows
structure DefAt (K : PySem.W.Frag) (x : Str) (st : Stmt) (f : Addr) : Prop where
 at_ : PySem.W.nsIn K mainGlobals x = some (some (.ref f))
 kp : PySem.W.keepIn K (.ref f) = true
 ex : ∃ (oc : Value) (od : Option Addr) (dc pm : Value) (an : Option Addr) (cd ct : Value) (sl : Array (Option Value)) (kV : Value), K.lookup f = some ⟨oc, od, .func (PySem.W.fnOf x x (defArgs st) (defBody st) (defScope st) .none kV dc pm an cd ct), sl⟩ ∧ PySem.W.codeIn K cd x = true
structure MethAt (K : PySem.W.Frag) (C : Addr) (m qual : Str) (st : Stmt) (f : Addr) : Prop where
 at_ : PySem.W.findIn K (.ref C) m = some (some (.ref f))
 isf : PySem.W.isFn K (.ref f) = true
 kp : PySem.W.keepIn K (.ref f) = true
 ex : ∃ (oc : Value) (od : Option Addr) (dc pm : Value) (an : Option Addr) (cd ct : Value) (sl : Array (Option Value)) (kV : Value), K.lookup f = some ⟨oc, od, .func (PySem.W.fnOf m qual (defArgs st) (defBody st) (defScope st) .none kV dc pm an cd ct), sl⟩ ∧ PySem.W.codeIn K cd qual = true
theorem DefAt.of {K : PySem.W.Frag} {x : Str} {st : Stmt} {f : Addr} {oc : Value} {od : Option Addr} {dc pm : Value} {an : Option Addr} {cd ct : Value} {sl : Array (Option Value)} {kV : Value} (a : PySem.W.nsIn K mainGlobals x = some (some (.ref f))) (l : K.lookup f = some ⟨oc, od, .func (PySem.W.fnOf x x (defArgs st) (defBody st) (defScope st) .none kV dc pm an cd ct), sl⟩) (c : PySem.W.codeIn K cd x = true) (k : PySem.W.keepIn K (.ref f) = true) : DefAt K x st f :=
 ⟨a, k, _, _, _, _, _, _, _, _, _, l, c⟩
theorem MethAt.of {K : PySem.W.Frag} {C : Addr} {m qual : Str} {st : Stmt} {f : Addr} {oc : Value} {od : Option Addr} {dc pm : Value} {an : Option Addr} {cd ct : Value} {sl : Array (Option Value)} {kV : Value} (a : PySem.W.findIn K (.ref C) m = some (some (.ref f))) (l : K.lookup f = some ⟨oc, od, .func (PySem.W.fnOf m qual (defArgs st) (defBody st) (defScope st) .none kV dc pm an cd ct), sl⟩) (c : PySem.W.codeIn K cd qual = true) (k : PySem.W.keepIn K (.ref f) = true) (i : PySem.W.isFn K (.ref f) = true) : MethAt K C m qual st f :=
 ⟨a, i, k, _, _, _, _, _, _, _, _, _, l, c⟩
noncomputable def DefAt.fd {K : PySem.W.Frag} {x : Str} {st : Stmt} {f : Addr} (a : DefAt K x st f) : FuncData := Classical.choose (show ∃ fd, Fun K x x st f fd from by
 obtain ⟨oc, od, dc, pm, an, cd, ct, sl, kV, l, c⟩ := a.ex
 exact ⟨_, fun_mk l c a.kp⟩)
theorem DefAt.fn {K : PySem.W.Frag} {x : Str} {st : Stmt} {f : Addr} (a : DefAt K x st f) : Fun K x x st f a.fd := Classical.choose_spec (show ∃ fd, Fun K x x st f fd from by
 obtain ⟨oc, od, dc, pm, an, cd, ct, sl, kV, l, c⟩ := a.ex
 exact ⟨_, fun_mk l c a.kp⟩)
noncomputable def MethAt.fd {K : PySem.W.Frag} {C : Addr} {x q : Str} {st : Stmt} {f : Addr} (a : MethAt K C x q st f) : FuncData := Classical.choose (show ∃ fd, Fun K x q st f fd from by
 obtain ⟨oc, od, dc, pm, an, cd, ct, sl, kV, l, c⟩ := a.ex
 exact ⟨_, fun_mk l c a.kp⟩)
theorem MethAt.fn {K : PySem.W.Frag} {C : Addr} {x q : Str} {st : Stmt} {f : Addr} (a : MethAt K C x q st f) : Fun K x q st f a.fd := Classical.choose_spec (show ∃ fd, Fun K x q st f fd from by
 obtain ⟨oc, od, dc, pm, an, cd, ct, sl, kV, l, c⟩ := a.ex
 exact ⟨_, fun_mk l c a.kp⟩)
theorem MethAt.mkOk {K : PySem.W.Frag} {C : Addr} {q : Str} {st : Stmt} {f : Addr} (a : MethAt K C "__init__" q st f) (h : PySem.W.makesIn K C = true) (k : PySem.W.keepIn K (.ref C) = true) : Mk K C f := ⟨h, a.at_, a.isf, k⟩
theorem make_ok {P : Program} {w : World} {K : PySem.W.Frag} {mg : Str → Option Value} {base : Heap} {k : Nat} {m x qual : Str} {fx : List Nat} {NN ps : List Str} {n : Nat} {st : Stmt} {f : Addr} {fd : FuncData} {body : PL.P Fl} {C : Addr} (F : Fun K m qual st f fd) (M : Mk K C f) (hm : mg x = some (.ref C)) (hb : Binds K fd ps []) (S : FnScope NN ps (defScope st)) (hn : ps.length = n + 1) (hN : n + 1 ≤ NN.length)
  (hbody : ∀ (cdv : Value) (A : Around) (outer : List PySem.Env) (s : Shared) (H : Hp) (E : XK), CtxOk (fun _ : Unit => cxOf (L2.CX P w) P w K mg base NN qual (defScope st) f cdv A outer s H E) P w K mg base k (WB E) NN (defScope st) →
   BSs (fun _ : Unit => cxOf (L2.CX P w) P w K mg base NN qual (defScope st) f cdv A outer s H E) K (WB E) fx (defBody st) body) : ka7 P w K mg base (k + 1) x n C (runF fx NN.length body) :=
 ⟨⟨f, fd, ps, def_fn F S hn hN hbody, M, hm, hb⟩⟩
end PL
namespace PL
open PySem L2 PySem.Spec PyProof.Rows
abbrev lamF (q : Str) (params : Arguments) (scope : Scope) (cl : List (Str × Addr)) (c : Addr) : NdefX.NF := ⟨"<lambda>", q, params, [], scope, cl, c⟩
def LamRun (P : Program) (w : World) (K : PySem.W.Frag) (mg : Str → Option Value) (base : Heap) (k : Nat) (f : Addr) (F : NdefX.NF) (body : Expr) (fr : List Str) (sp : List (Option V) → Sp) : Prop :=
 ∀ (A : Around) (outer : List Env) (s : Shared) (H : Hp) (us : List Value) (vs : List V) (ws : List (Option V)) (pm ctv : Value) (Q : VK) (E : XK), Room k A → Env0 P w K mg base A outer s H →
  s.heap.get? f = some (PySem.W.kla_obj "<lambda>" F.qual F.params body F.scope F.cl pm F.c ctv) → H F.c = some (LamX.CodeO F.c F.qual) → NdefX.CellsAt F.cl fr ws s.heap H → Vals vs us → sp ws vs H Q E →
  codeAny (model P w) A (.call (.ref f) ⟨us, []⟩) (CR (L2.CX P w) outer P w H s Q E) s
section
variable {P : Program} {w : World} {K : PySem.W.Frag} {mg : Str → Option Value} {base : Heap} {N ps fr : List Str} {F : NdefX.NF} {f : Addr} {k : Nat} {sp : List (Option V) → Sp} {body : Expr}
theorem lam_of (S : NdefX.NScope N ps fr F.scope) (hb : ∀ (pm ctv : Value) (us : List Value), us.length = ps.length → bindArgs (PySem.W.kla_fn "<lambda>" F.qual F.params body F.scope F.cl pm (.ref F.c) ctv) ⟨us, []⟩ = pure (ps.zip us)) (len : ∀ ws vs H Q E, sp ws vs H Q E → vs.length = ps.length)
  (hbody : ∀ (A : Around) (outer : List Env) (s : Shared) (H : Hp) (vs : List V) (ws : List (Option V)) (Q : VK) (E : XK), Room k (A.deeper (NdefX.envF F f s.heap.objs.size)) → ws.length = fr.length → sp ws vs H Q E →
   ∃ te, PE (NdefX.ncx (L2.CX P w) P w K mg base N F f A outer s H E) body te ∧ te (NdefX.startF N vs ws) H Q) :
  LamRun P w K mg base (k + 1) f F body fr sp := by
 intro A outer s H us vs ws pm ctv Q E hr e0 ho hc Cl r hsp
 have hl := len _ _ _ _ _ hsp
 have nl : s.heap.NoLimit := e0.mod.nolimit.keeps fun b o e => (e0.bs b o e).1
 refine PySem.W.kla_callFunE hr.depth ho rfl S.co S.gen rfl (NdefX.codeO_at e0.hok hc) ?_
 rw [hb pm ctv us (by rw [← r.length]; exact hl)]
 refine wpAny_pure (wpAny_newFunctionEnv S.nocell (fun ⟨n, _⟩ hy => S.par n (List.of_mem_zip hy).1) (fun h2 hn2 hs2 => ⟨nl.fresh _ hs2, ?_⟩) S.kind)
 have kp2 : ∀ b o, s.heap.get? b = some o → h2.get? b = some o := fun b o z => hs2.extBut b o (Nat.ne_of_lt (Heap.lt_size z)) (Heap.get?_push_of_some _ z)
 obtain ⟨te, ht, hq⟩ := hbody A outer s H vs ws Q E (hr.deeper _) Cl.len hsp
 have J0 : Inv (NdefX.ncx (L2.CX P w) P w K mg base N F f A outer s H E) [] (NdefX.startF N vs ws) H { s with heap := h2, toks := s.toks + (ps.zip us).length } := NdefX.inv_startN S hr.hd e0 hl r Cl hn2 kp2
 refine PySem.W.kla_codeExpr (wpAny_mono (ht.run [] _ _ H Q J0 hq) (fun v s' z => ?_) fun e s' z => z)
 obtain ⟨w', H', J, rv, q⟩ := z
 exact ⟨w', H', J.os, J.bare, J.base, J.hok, rv, q⟩
end
def spL (K : PySem.W.Frag) (n m : Nat) (F : PL.P Rv) : List (Option V) → Sp := fun ws vs H Q E => ∃ zs : List V, ws = zs.map some ∧ vs.length = n ∧ zs.length = m ∧ spF K (n + m) F (vs ++ zs) H Q E
theorem start_F {N : List Str} {vs zs : List V} : NdefX.startF N vs (zs.map some) = L2.start N (vs ++ zs) := by
 unfold NdefX.startF L2.start
 rw [List.map_append, List.append_assoc, List.length_map, List.length_append, Nat.sub_sub]
theorem lam_ok {P : Program} {w : World} {K : PySem.W.Frag} {mg : Str → Option Value} {base : Heap} {N ps fr : List Str} {F : NdefX.NF} {f : Addr} {k n m : Nat} {body : Expr} {fe : PL.P Rv} (S : NdefX.NScope N ps fr F.scope)
  (hb : ∀ (pm ctv : Value) (us : List Value), us.length = ps.length → bindArgs (PySem.W.kla_fn "<lambda>" F.qual F.params body F.scope F.cl pm (.ref F.c) ctv) ⟨us, []⟩ = pure (ps.zip us)) (hn : ps.length = n) (hm : fr.length = m) (hN : n + m ≤ N.length)
  (hbody : ∀ (A : Around) (outer : List Env) (s : Shared) (H : Hp) (E : XK), CtxOk (fun _ : Unit => NdefX.ncx (L2.CX P w) P w K mg base N F f A outer s H E) P w K mg base k (WB E) N F.scope →
   BE (fun _ : Unit => NdefX.ncx (L2.CX P w) P w K mg base N F f A outer s H E) K (WB E) body fe) :
  LamRun P w K mg base (k + 1) f F body fr (spL K n m (runF [] N.length (sRet fe))) := by
 refine lam_of S hb (fun ws vs H Q E ⟨zs, _, h, _⟩ => h.trans hn.symm) fun A outer s H vs ws Q E hr hw hsp => ?_
 obtain ⟨te, h1, h2⟩ := hbody A outer s H E ⟨fun _ => rfl, fun _ => rfl, fun _ => rfl, fun _ => rfl, fun _ => rfl, fun _ => hr, fun _ => takes_of rfl rfl rfl rfl, fun _ => rfl, fun _ => passes_of rfl, fun _ => rfl, fun _ => rfl, S.nd⟩
 refine ⟨te, h1 (), ?_⟩
 obtain ⟨zs, rfl, hvl, hzl, hl, C, cs, out, e, ho, hok, hex⟩ := hsp
 rw [start_F]
 have hs := ss_ret (fx := []) h2
 have hlen : (vs ++ zs).length ≤ N.length := by rw [hl]; exact hN
 have e0 := EnvOk.begin (N := N) hlen e
 unfold runF at ho
 cases q : sRet fe (cs ++ List.replicate (N.length - cs.length) .no) with
 | none => rw [q] at ho; cases ho
 | some o =>
  rw [q] at ho
  refine hs (L2.start N (vs ++ zs)) C H _ o { nx := fun _ H' => Q .non H', rt := Q } e0 q ?_
  cases o with
  | ex x r =>
   dsimp only at ho
   cases z : merge [] 0 cs r with
   | none => rw [z] at ho; cases ho
   | some cs' =>
    rw [z] at ho; cases ho
    exact fun d σ' C' H' p k => hex x cs' rfl d C' H' (Post.finish e p z) k
  | ok fl r =>
   cases fl with
   | next =>
    dsimp only at ho
    cases z : merge [] 0 cs r with
    | none => rw [z] at ho; cases ho
    | some cs' =>
     rw [z] at ho; cases ho
     exact fun σ' C' H' p => (hok _ cs' rfl).2 .non C' H' (Post.finish e p z) (show Is K C' (.s .non) .non from is_s)
   | brk => cases ho
   | cont => cases ho
   | ret v =>
    dsimp only at ho
    cases y : handed cs.length r v with
    | none => rw [y] at ho; cases ho
    | some r' =>
     rw [y] at ho
     dsimp only at ho
     cases z : merge [] 0 cs r with
     | none => rw [z] at ho; cases ho
     | some cs' =>
      rw [z] at ho; cases ho
      exact fun u σ' C' H' p k => (hok r' cs' rfl).2 u C' H' (Post.finish e p z) (VOk.finish e p z k y).2
end PL
namespace PL
open PySem L2 PySem.Spec PyProof.Rows
def LamO (f : Addr) (F : NdefX.NF) (body : Expr) : Heap → Prop := fun h => ∃ (pm ctv : Value), h.get? f = some (PySem.W.kla_obj "<lambda>" F.qual F.params body F.scope F.cl pm F.c ctv)
def Told (H : Hp) (P : Addr) (pos : Pos) (c : Addr) : Prop := ∃ ps : Array Value, H P = some (.tbl ps) ∧ TriplesOk ps.toList ∧ codeAmong pos ps.toList = some (.ref c)
theorem among_more {pos : Pos} {cv : Value} (l m : List Value) (h : TriplesOk l) (hc : codeAmong pos l = some cv) : codeAmong pos (l ++ m) = some cv := by
 fun_induction TriplesOk l with
 | case1 => simp [codeAmong] at hc
 | case2 a t b u x rest ih =>
  simp only [List.cons_append, codeAmong] at hc ⊢
  split at hc
  ·rename_i q; rw [if_pos q]; exact hc
  ·rename_i q; rw [if_neg q]; exact ih h hc
 | case3 l h1 h2 => exact h.elim
theorem among_last {pos : Pos} {c : Value} (l : List Value) (h : TriplesOk l) (hc : codeAmong pos l = none) : codeAmong pos (l ++ [rawInt pos.line, rawInt pos.col, c]) = some c := by
 fun_induction TriplesOk l with
 | case1 => simp [codeAmong, rawInt]
 | case2 a t b u x rest ih =>
  simp only [List.cons_append, codeAmong] at hc ⊢
  split at hc
  ·cases hc
  ·rename_i q; rw [if_neg q]; exact ih h hc
 | case3 l h1 h2 => exact h.elim
structure Mkd (H : Hp) (P : Addr) (lpos : Pos) (mk : Addr → NdefX.NF) (body : Expr) (f c : Addr) (H1 : Hp) : Prop where
 ex : Ex H H1
 tabs : ∀ P', TS1 H P' → TS1 H1 P'
 new : H f = none
 fn : H1 f = some (.ext (LamO f (mk c) body))
 told : Told H1 P lpos c
def tLamE (P : Addr) (lpos : Pos) (mk : Addr → NdefX.NF) (body : Expr) : TE := fun σ H Q => TS1 H P ∧ ∀ (f c : Addr) (H1 : Hp), Mkd H P lpos mk body f c H1 → Q (.ref f) H1
section
variable {X : Cx} {pins : List (Addr × Obj)} {σ : L2.St} {H : Hp} {s : Shared}
theorem inv_lam {F : NdefX.NF} {body : Expr} {o : Obj} {t' : Nat} {pm ctv : Value} (I : Inv X pins σ H s) (ho : o = PySem.W.kla_obj "<lambda>" F.qual F.params body F.scope F.cl pm F.c ctv) :
  Inv X pins σ (upd H s.heap.objs.size (.ext (LamO s.heap.objs.size F body))) { s with heap := s.heap.push o, toks := t' } := by
 subst ho
 refine I.laid (a := s.heap.objs.size) (fun b u z => Heap.get?_push_of_some _ z) (Nat.le_refl _) ?_
 have z : (s.heap.push (PySem.W.kla_obj "<lambda>" F.qual F.params body F.scope F.cl pm F.c ctv)).get? s.heap.objs.size = some (PySem.W.kla_obj "<lambda>" F.qual F.params body F.scope F.cl pm F.c ctv) := Heap.get?_push_size _ rfl
 exact ⟨⟨pm, ctv, z⟩, ⟨_, z⟩, fun h1 h2 ⟨p, t, y⟩ st => ⟨p, t, st _ y⟩⟩
theorem lam_made {c P : Addr} {params : Arguments} {body : Expr} {scope : Scope} {lpos : Pos} {E : Value → Shared → Prop} {Q : Value → Shared → Prop} (I : Inv X pins σ H s) (TB : LamX.TabB X.base X.mg c P) (hcode : X.env.code = .ref c) (hq : X.env.qual ++ "<lambda>" = lamQ)
  (hT : TS1 H P) (hdef : defaultsOf params X.env = ([], [])) (hfree : ∀ y ∈ scope.names, y.2 = .free → ∃ c, X.env.cells.lookup y.1 = some c)
  (h : ∀ (f c' : Addr) (H1 : Hp) (s' : Shared), Inv X pins σ H1 s' → Mkd H P lpos (fun c' => lamF lamQ params scope (cloFrom X.env.cells scope.names []) c') body f c' H1 → Q (.ref f) s') :
  wpAny (model X.prog X.w) X.A (eval (.Lambda params body scope lpos) X.env) Q E s := by
 obtain ⟨ps, hP, ht, ha⟩ := hT
 refine PySem.W.kla_eval hdef ?_
 rw [hq]
 have bP := TB.bm.keeps I.bk
 have hP2 : s.heap.get? P = some { cls := .none, data := .fields ps } := I.hok P _ hP
 cases hc : codeAmong lpos ps.toList with
 | some cv =>
  obtain ⟨c', rfl, hco⟩ := ha lpos cv hc
  refine PySem.W.kla_makeFunctionHit (mg := X.mg) (c := c) (P := P) (ps := ps) (closure_ok hfree) I.ok.glob (I.mod.glob.keeps I.bk) hcode (TB.code.keeps I.bk) hP2 ht hc bP fun ctv h' tk hx _ => ?_
  have I1 : Inv X pins σ H { s with heap := h', toks := tk } := I.kept hx
  have nF : H h'.objs.size = none := I1.hok.fresh (Nat.le_refl _)
  have I2 := inv_lam (F := lamF lamQ params scope (cloFrom X.env.cells scope.names []) c') (body := body) (t' := tk) (pm := (X.mg "__name__").getD .none) (ctv := ctv) I1 rfl
  exact h _ c' _ _ I2 ⟨Ex.new nF, fun P' q => jw q nF, nF, upd_same, ps, by rw [upd_ne (ne_of_none hP nF)]; exact hP, ht, hc⟩
 | none =>
  refine PySem.W.kla_makeFunction (mg := X.mg) (c := c) (P := P) (ps := ps) (closure_ok hfree) I.ok.glob (I.mod.glob.keeps I.bk) hcode (TB.code.keeps I.bk) hP2 ht hc TB.gP bP fun c' ctv h' tk hx hge hlt hrec htb => ?_
  obtain ⟨c2, oc, vs, t, e2, hoc, hd, hv⟩ := hrec
  cases e2
  have nC : H c' = none := I.hok.fresh hge
  have I1 := LamX.inv_table (t' := tk) (more := #[rawInt lpos.line, rawInt lpos.col, .ref c']) (h' := h') I hP (fun b o hb z => hx b o hb z) htb hge ⟨oc, vs, t, hoc, hd, hv⟩
  have nF : (upd (upd H P (.tbl (ps ++ #[rawInt lpos.line, rawInt lpos.col, .ref c']))) c' (LamX.CodeO c' lamQ)) h'.objs.size = none := I1.hok.fresh (Nat.le_refl _)
  have I2 := inv_lam (F := lamF lamQ params scope (cloFrom X.env.cells scope.names []) c') (body := body) (t' := tk) (pm := (X.mg "__name__").getD .none) (ctv := ctv) I1 rfl
  have nPc : P ≠ c' := ne_of_none hP nC
  have nF0 : H h'.objs.size = none := by
   by_cases z1 : h'.objs.size = c'
   ·rw [z1]; exact nC
   ·rw [upd_ne z1] at nF
    by_cases z2 : h'.objs.size = P
    ·rw [z2, upd_same] at nF; cases nF
    ·rw [upd_ne z2] at nF; exact nF
  have exA : Ex H (upd (upd H P (.tbl (ps ++ #[rawInt lpos.line, rawInt lpos.col, .ref c']))) c' (LamX.CodeO c' lamQ)) := ⟨fun b o z n => by
   rw [upd_ne (ne_of_none z nC), upd_ne (fun y => n ps (Option.some.inj (z.symm.trans (by rw [y]; exact hP))))]; exact z, fun b z => by
   by_cases z1 : b = c'
   ·rw [z1]; exact nC
   ·rw [upd_ne z1] at z
    by_cases z2 : b = P
    ·rw [z2, upd_same] at z; cases z
    ·rw [upd_ne z2] at z; exact z⟩
  have eL : (ps ++ #[rawInt lpos.line, rawInt lpos.col, .ref c']).toList = ps.toList ++ [rawInt lpos.line, rawInt lpos.col, .ref c'] := by simp
  have tbA : ∀ P', TS1 H P' → TS1 (upd (upd H P (.tbl (ps ++ #[rawInt lpos.line, rawInt lpos.col, .ref c']))) c' (LamX.CodeO c' lamQ)) P' := fun P' q => by
   by_cases zb : P' = P
   ·subst zb
    refine ⟨_, by rw [upd_ne nPc, upd_same], by rw [eL]; exact PySem.TriplesOk_snoc _ _ _ _ ht, fun p' cv hcv => ?_⟩
    rw [eL] at hcv
    rcases LamX.among_app _ ht hcv with z | z
    ·obtain ⟨c0, e1, e2⟩ := ha p' cv z
     exact ⟨c0, e1, exA.1 _ _ e2 (LamX.codeO_ne)⟩
    ·exact ⟨c', z, upd_same⟩
   ·obtain ⟨qs, q1, q2, q3⟩ := q
    refine ⟨qs, by rw [upd_ne (ne_of_none q1 nC), upd_ne zb]; exact q1, q2, fun p' cv hcv => ?_⟩
    obtain ⟨c0, e1, e2⟩ := q3 p' cv hcv
    exact ⟨c0, e1, exA.1 _ _ e2 (LamX.codeO_ne)⟩
  refine h _ c' _ _ I2 ⟨exA.trans (Ex.new nF), fun P' q => jw (tbA P' q) nF, nF0, upd_same, _, ?_, by rw [eL]; exact PySem.TriplesOk_snoc _ _ _ _ ht, by rw [eL]; exact among_last _ ht hc⟩
  show upd _ h'.objs.size _ P = _
  rw [upd_ne (fun z => by rw [← z, upd_ne nPc, upd_same] at nF; cases nF), upd_ne nPc, upd_same]
theorem pe_lamE {c P : Addr} {params : Arguments} {body : Expr} {scope : Scope} {lpos : Pos} (TB : LamX.TabB X.base X.mg c P) (hcode : X.env.code = .ref c) (hq : X.env.qual ++ "<lambda>" = lamQ) (hdef : defaultsOf params X.env = ([], []))
  (hfree : ∀ y ∈ scope.names, y.2 = .free → X.env.scope.names.lookup y.1 = some .cell ∨ X.env.scope.names.lookup y.1 = some .free) :
  PE X (.Lambda params body scope lpos) (tLamE P lpos (fun c' => lamF lamQ params scope (cloFrom X.env.cells scope.names []) c') body) := by
 refine ⟨fun pins s σ H Q I h => ?_⟩
 obtain ⟨hT, h⟩ := h
 refine lam_made I TB hcode hq hT hdef (fun y hy e => (hfree y hy e).elim (fun z => I.ok.has _ (.inl z)) fun z => I.ok.has _ (.inr z)) fun f c' H1 s' I1 m => ?_
 exact ⟨.ref f, H1, I1, rfl, h f c' H1 m⟩
end
end PL
namespace PL
open PySem L2 PySem.Spec PyProof.Rows
theorem wbm {K : PySem.W.Frag} {fx : List Nat} {N : List Str} {n : Nat} {t : TS} {body : PL.P Fl} {vs : List V} {H : Hp} {Q : VK} {E : XK} (hs : SdS K (fun cls d _ H => E cls d H) fx t body) (hN : n ≤ N.length) (h : spF K n (runF fx N.length body) vs H Q E) : t { nx := fun _ H' => Q .non H', rt := Q } (L2.start N vs) H := by
 obtain ⟨hl, C, cs, out, e, ho, hok, hex⟩ := h
 have e0 := EnvOk.begin (N := N) (by rw [hl]; exact hN) e
 unfold runF at ho
 cases q : body (cs ++ List.replicate (N.length - cs.length) .no) with
 | none => rw [q] at ho; cases ho
 | some o =>
  rw [q] at ho
  refine hs (L2.start N vs) C H _ o _ e0 q ?_
  cases o with
  | ex x r =>
   dsimp only at ho
   cases z : merge fx 0 cs r with
   | none => rw [z] at ho; cases ho
   | some cs' => rw [z] at ho; cases ho; exact fun d σ' C' H' p k => hex x cs' rfl d C' H' (Post.finish e p z) k
  | ok fl r =>
   cases fl with
   | next =>
    dsimp only at ho
    cases z : merge fx 0 cs r with
    | none => rw [z] at ho; cases ho
    | some cs' => rw [z] at ho; cases ho; exact fun σ' C' H' p => (hok _ cs' rfl).2 .non C' H' (Post.finish e p z) (show Is K C' (.s .non) .non from is_s)
   | brk => cases ho
   | cont => cases ho
   | ret v =>
    dsimp only at ho
    cases y : handed cs.length r v with
    | none => rw [y] at ho; cases ho
    | some r' =>
     rw [y] at ho
     dsimp only at ho
     cases z : merge fx 0 cs r with
     | none => rw [z] at ho; cases ho
     | some cs' => rw [z] at ho; cases ho; exact fun u σ' C' H' p k => (hok r' cs' rfl).2 u C' H' (Post.finish e p z) (VOk.finish e p z k y).2
structure ActOk (P : Program) (w : World) (K : PySem.W.Frag) (mg : Str → Option Value) (base : Heap) (k : Nat) (Z : Cx) (Pt f : Addr) (NF : NdefX.NF) (body : Expr) (fr : List Str) (zs : List V) (n m : Nat) (F : PL.P Rv) : Prop where
 run : LamRun P w K mg base k f NF body fr (spL K n m F)
 told : ∃ lpos, Told Z.H_0 Pt lpos NF.c
 nf : ∀ y c, NF.cl.lookup y = some c → c ∉ Z.fs
 cells : NdefX.CellsAt NF.cl fr (zs.map some) Z.s_0.heap Z.H_0
 ex : Z.ex = []
 q : NF.qual = lamQ
def tAct (Pt f : Addr) (φ : Heap → Prop) (zs : List V) (i : Nat) (sp : List (Option V) → Sp) (E : L2.St → XK) (t : TA) : TE := fun σ H Q => σ[i]? = some (some (.ref f)) ∧ H f = some (.ext φ) ∧ t σ H fun vs H1 => H1 f = some (.ext φ) ∧ TS1 H1 Pt ∧ sp (zs.map some) vs H1 Q (E σ)
section
variable {P : Program} {w : World} {K : PySem.W.Frag} {mg : Str → Option Value} {base : Heap} {k : Nat} {Z : Cx} {Pt f : Addr} {NF : NdefX.NF} {body : Expr} {fr : List Str} {zs : List V} {n m : Nat} {F : PL.P Rv} {W : WX} {i : Nat} {x : Str} {p pos : Pos} {e : Expr} {es : List Expr} {t : TA}
theorem lam_at {pins : List (Addr × Obj)} {σ : L2.St} {H : Hp} {s : Shared} (I : Inv Z pins σ H s) (h : H f = some (.ext (LamO f NF body))) : ∃ pm ctv, s.heap.get? f = some (PySem.W.kla_obj "<lambda>" NF.qual NF.params body NF.scope NF.cl pm NF.c ctv) := by
 obtain ⟨z, _, _⟩ := I.hok f _ h
 exact z
theorem pe_actL (h1 : Z.prog = P) (h2 : Z.w = w) (h3 : Z.K = K) (h4 : Z.mg = mg) (h5 : Z.base = base) (a : ActOk P w K mg base k Z Pt f NF body fr zs n m F) (hr : Room k Z.A) (tk : Takes Z W) (hN : Z.N[i]? = some x) (hv : Vis Z.env.scope x) (ha : PA Z (e :: es) t)
  (hd : (x == ("__debug__" : Str)) = false) (hcd : (x == ("__classdict__" : Str)) = false)
  (he : starEach (e :: es) Z.env = (false, eval e Z.env) :: starEach es Z.env) (hpl : (backTo pos (starEach es Z.env)).any (·.1) = false) :
  PE Z (.Call (.Name x p) (e :: es) [] pos) (tAct Pt f (LamO f NF body) zs i (spL K n m F) (WE W) t) := by
 subst h1 h2 h3 h4 h5
 refine ⟨fun pins s σ H Q I h => ?_⟩
 obtain ⟨hs, hf, ht⟩ := h
 refine wpAny_Call_Name_kw (thn ((pe_var (pos := p) hN hv hd hcd).run pins s σ H (fun v H1 => v = .ref f ∧ H1 = H) I ⟨.ref f, hs, rfl, rfl⟩) fun u s1 ⟨v, H1, I1, r1, q1⟩ => ?_)
 obtain ⟨rfl, rfl⟩ := q1
 obtain rfl : u = Value.ref f := r1
 obtain ⟨pm, ctv, hg⟩ := lam_at I1 hf
 refine PySem.W.callWith_F (first := []) ⟨_, _, _, _, hg⟩ (thn (ha.run pos pins s1 σ H1 _ I1 ht) fun us s2 ⟨vs, H2, I2, r, h1, h2, q⟩ => ?_) he hpl
 obtain ⟨pm2, ctv2, hg2⟩ := lam_at I2 h1
 refine ⟨⟨_, _, _, _, hg2⟩, ?_⟩
 show wpAny _ _ (call (.ref f) us) _ _ _
 have hc : H2 NF.c = some (LamX.CodeO NF.c NF.qual) := by
  obtain ⟨lpos, ps, t1, t2, t3⟩ := a.told
  obtain ⟨more, hm⟩ := I2.base.tbls _ _ t1
  obtain ⟨ps2, k1, k2, k3⟩ := h2
  rw [hm] at k1
  cases k1
  obtain ⟨c0, e1, e2⟩ := k3 lpos (.ref NF.c) (by rw [Array.toList_append]; exact among_more _ _ t2 t3)
  cases e1
  rw [a.q]; exact e2
 have hC := NdefX.CellsAt.later a.cells a.nf (fun y c _ z => by rw [a.ex] at z; cases z) I2
 refine wpAny_call (codeAny_mono (a.run Z.A Z.stack s2 H2 us vs _ pm2 ctv2 Q (WE W σ) hr I2.env0 hg2 hc hC r q) fun r s' hq => ?_)
 cases r with
 | error e => exact passAt tk σ pins H2 s2 e s' I2 hq
 | ok fl =>
  cases fl with
  | ret u => exact I2.after hq
  | next => exact False.elim hq
  | brk => exact False.elim hq
  | cont => exact False.elim hq
theorem pe_actK {g : Addr} {fd : FuncData} {ps : List Str} {sp : Sp} (h1 : Z.prog = P) (h2 : Z.w = w) (h3 : Z.K = K) (h4 : Z.mg = mg) (h5 : Z.base = base) (hF : FnOk P w K mg base (L2.CX P w) k g fd ps sp) (hk : PySem.W.keepIn K (.ref g) = true) (hb : Binds K fd ps []) (hr : Room k Z.A) (tk : Takes Z W) (hN : Z.N[i]? = some x) (hv : Vis Z.env.scope x) (ha : PA Z (e :: es) t)
  (hd : (x == ("__debug__" : Str)) = false) (hcd : (x == ("__classdict__" : Str)) = false)
  (he : starEach (e :: es) Z.env = (false, eval e Z.env) :: starEach es Z.env) (hpl : (backTo pos (starEach es Z.env)).any (·.1) = false) :
  PE Z (.Call (.Name x p) (e :: es) [] pos) (fun σ H Q => σ[i]? = some (some (.ref g)) ∧ t σ H fun vs H1 => sp vs H1 Q (WE W σ)) := by
 subst h1 h2 h3 h4 h5
 refine ⟨fun pins s σ H Q I h => ?_⟩
 obtain ⟨hs, ht⟩ := h
 refine wpAny_Call_Name_kw (thn ((pe_var (pos := p) hN hv hd hcd).run pins s σ H (fun v H1 => v = .ref g ∧ H1 = H) I ⟨.ref g, hs, rfl, rfl⟩) fun u s1 ⟨v, H1, I1, r1, q1⟩ => ?_)
 obtain ⟨rfl, rfl⟩ := q1
 obtain rfl : u = Value.ref g := r1
 refine PySem.W.callWith_K (h₀ := Z.base) I1.ok.mod.kin hk (thn (ha.run pos pins s1 σ H1 _ I1 ht) fun us s2 ⟨vs, H2, I2, r, q⟩ => ⟨I2.kIn, ?_⟩) he hpl
 exact run_fnS hF hr hb (passAt tk σ) I2 r q
end
open Classical in
noncomputable def fAct (f : Addr) (φ : Heap → Prop) (zs : List V) (n m : Nat) (F : PL.P Rv) (i : Nat) (ga : PL.P (List Arg)) : PL.P Rv := fun ρ => match ρ[i]? with
 | some (.dat (.lam f0 φ0 zs0 ks)) => if f0 = f ∧ φ0 = φ ∧ zs0 = zs ∧ ks.length = m then (ga.bind fun as => if as.length = n then yam (n + m) F (as ++ ks.map .inl) else PL.P.fail) ρ else none
 | _ => none
def xaq (f : Addr) (n : Nat) (F : PL.P Rv) (i : Nat) (ga : PL.P (List Arg)) : PL.P Rv := fun ρ => match ρ[i]? with
 | some (.dat (.s (.ref f0))) => if f0 = f then (ga.bind (yam n F)) ρ else none
 | _ => none
theorem ja7 {K : PySem.W.Frag} {C : Hp} {σ : Sl} : ∀ {ks : List D} {zs : List V}, Iss K C ks zs → ArgOk K C σ (ks.map .inl) zs
 | [], zs, h => iss_nil_iff.mp h
 | d :: ds, zs, h => by
  obtain ⟨y, r, rfl, h2, h3⟩ := iss_cons_iff.mp h
  exact ⟨y, r, rfl, h2, ja7 h3⟩
theorem ja2 {K : PySem.W.Frag} {C : Hp} {σ : Sl} {ks : List D} {zs : List V} (h : Iss K C ks zs) : ∀ {as : List Arg} {vs : List V}, ArgOk K C σ as vs → ArgOk K C σ (as ++ ks.map .inl) (vs ++ zs)
 | [], vs, q => by
  have q : vs = [] := q
  subst q
  exact ja7 h
 | .inl d :: as, vs, q => by
  obtain ⟨y, r, rfl, h2, h3⟩ := q
  exact ⟨y, r ++ zs, rfl, h2, ja2 h h3⟩
 | .inr j :: as, vs, q => by
  obtain ⟨y, r, rfl, h2, h3⟩ := q
  exact ⟨y, r ++ zs, rfl, h2, ja2 h h3⟩
section
variable {K : PySem.W.Frag} {W : WX} {t : TA} {ga : PL.P (List Arg)} {i n m : Nat} {F : PL.P Rv}
theorem sd_act {Pt f : Addr} {φ : Heap → Prop} {zs : List V} (hP : TabP K Pt) (hF : ∀ cs r cs', F cs = some (.ok r cs') → rvD r = true) (hg : Sd K W (ARel K) t ga) : Sd K W (VRel K) (tAct Pt f φ zs i (spL K n m F) (WE W) t) (fAct f φ zs n m F i ga) := by
 intro σ C H ρ e
 unfold fAct
 cases q : ρ[i]? with
 | none => exact At.nil
 | some c =>
  obtain ⟨v, hv, ok⟩ := e.cell i c q
  cases c with
  | no => exact At.nil
  | own m => exact At.nil
  | dat d =>
   cases d with
   | lam f0 φ0 zs0 ks =>
    dsimp only
    by_cases c : f0 = f ∧ φ0 = φ ∧ zs0 = zs ∧ ks.length = m
    ·rw [if_pos c]
     obtain ⟨rfl, rfl, rfl, hm⟩ := c
     obtain ⟨u, rfl, ok⟩ := ok
     obtain ⟨rfl, o2, o3⟩ := is_lam_iff.mp ok
     have nx : ∀ φ, NT (.ext φ) := fun φ ps z => by cases z
     refine At.imp (t := fun H1 Q => t σ H1 fun vs H2 => H2 f0 = some (.ext φ0) ∧ TS1 H2 Pt ∧ spL K n m F (zs0.map some) vs H2 Q (WE W σ)) ?_ fun Q h => ⟨hv, e.ext.1 _ _ o2 (nx _), h⟩
     refine At.bind (tk := fun (vs : List V) (H2 : Hp) (Q : VK) => H2 f0 = some (.ext φ0) ∧ TS1 H2 Pt ∧ spL K n m F (zs0.map some) vs H2 Q (WE W σ)) (hg σ C H ρ e) fun as ρ2 vs C2 H2 p2 r2 => ?_
     have hf2 := p2.env.ext.1 _ _ (p2.step.core.1 _ _ o2 (nx _)) (nx _)
     have ht2 := p2.env.tab Pt hP
     have r2 : ArgOk K C2 σ as vs := r2
     by_cases hl : as.length = n
     ·rw [if_pos hl]
      have o4 := Iss.mono p2.step.core _ _ o3
      refine At.imp (jbr (W := W) (H0 := H) p2.env (as := as ++ ks.map .inl) (vs := vs ++ zs0) (ja2 o4 r2) p2.step.dom hF) fun Q h => ⟨hf2, ht2, zs0, rfl, by rw [← hl, ← r2.len], by rw [← hm, o3.length], h⟩
     ·rw [if_neg hl]; exact At.nil
    ·rw [if_neg c]; exact At.nil
   | _ => exact At.nil
theorem sd_actK {g : Addr} (hF : ∀ cs r cs', F cs = some (.ok r cs') → rvD r = true) (hg : Sd K W (ARel K) t ga) : Sd K W (VRel K) (fun σ H Q => σ[i]? = some (some (.ref g)) ∧ t σ H fun vs H1 => spF K n F vs H1 Q (WE W σ)) (xaq g n F i ga) := by
 intro σ C H ρ e
 unfold xaq
 cases q : ρ[i]? with
 | none => exact At.nil
 | some c =>
  obtain ⟨v, hv, ok⟩ := e.cell i c q
  cases c with
  | no => exact At.nil
  | own m => exact At.nil
  | dat d =>
   cases d with
   | s y =>
    cases y with
    | ref f0 =>
     dsimp only
     by_cases c : f0 = g
     ·rw [if_pos c]
      subst c
      obtain ⟨u, rfl, ok⟩ := ok
      cases is_s_iff.mp ok
      refine At.imp (t := fun H1 Q => t σ H1 fun vs H2 => spF K n F vs H2 Q (WE W σ)) ?_ fun Q h => ⟨hv, h⟩
      refine At.bind (tk := fun (vs : List V) (H2 : Hp) (Q : VK) => spF K n F vs H2 Q (WE W σ)) (hg σ C H ρ e) fun as ρ2 vs C2 H2 p2 r2 => ?_
      exact jbr p2.env r2 p2.step.dom hF
     ·rw [if_neg c]; exact At.nil
    | _ => exact At.nil
   | _ => exact At.nil
end
end PL
namespace PL
open PySem L2 PySem.Spec PyProof.Rows
section
variable {P : Program} {w : World} {K : PySem.W.Frag} {mg : Str → Option Value} {base : Heap} {k : Nat} {Z : Cx} {Pt f : Addr} {W : WX} {N : List Str} {sc : Scope} {x : Str} {p pos : Pos} {e : Expr} {es : List Expr} {ga : PL.P (List Arg)} {n m : Nat} {F : PL.P Rv}
theorem be_actL {NF : NdefX.NF} {body : Expr} {fr : List Str} {zs : List V} (B : CtxOk (fun _ : Unit => Z) P w K mg base k W N sc) (a : ActOk P w K mg base k Z Pt f NF body fr zs n m F) (hP : TabP K Pt) (hF : ∀ cs r cs', F cs = some (.ok r cs') → rvD r = true) (i : Nat) (hN : N[i]? = some x) (hv : Vis sc x)
  (hd : (x == ("__debug__" : Str)) = false) (hcd : (x == ("__classdict__" : Str)) = false) (he : starEach (e :: es) Z.env = (false, eval e Z.env) :: starEach es Z.env) (hpl : (backTo pos (starEach es Z.env)).any (·.1) = false) (ha : BAa (fun _ : Unit => Z) K W (e :: es) ga) :
  BE (fun _ : Unit => Z) K W (.Call (.Name x p) (e :: es) [] pos) (fAct f (LamO f NF body) zs n m F i ga) := by
 obtain ⟨t, pa, sa⟩ := ha
 exact ⟨_, fun _ => pe_actL (B.pP ()) (B.pw ()) (B.pK ()) (B.pm ()) (B.pb ()) a (B.room ()) (B.tk ()) (B.at_ hN ()) (B.vis hv ()) (pa ()) hd hcd he hpl, sd_act hP hF sa⟩
theorem be_actK {g : Addr} {fd : FuncData} {ps : List Str} (B : CtxOk (fun _ : Unit => Z) P w K mg base k W N sc) (hF : FnOk P w K mg base (L2.CX P w) k g fd ps (spF K n F)) (hk : PySem.W.keepIn K (.ref g) = true) (hb : Binds K fd ps []) (hrv : ∀ cs r cs', F cs = some (.ok r cs') → rvD r = true) (i : Nat) (hN : N[i]? = some x) (hv : Vis sc x)
  (hd : (x == ("__debug__" : Str)) = false) (hcd : (x == ("__classdict__" : Str)) = false) (he : starEach (e :: es) Z.env = (false, eval e Z.env) :: starEach es Z.env) (hpl : (backTo pos (starEach es Z.env)).any (·.1) = false) (ha : BAa (fun _ : Unit => Z) K W (e :: es) ga) :
  BE (fun _ : Unit => Z) K W (.Call (.Name x p) (e :: es) [] pos) (xaq g n F i ga) := by
 obtain ⟨t, pa, sa⟩ := ha
 exact ⟨_, fun _ => pe_actK (B.pP ()) (B.pw ()) (B.pK ()) (B.pm ()) (B.pb ()) hF hk hb (B.room ()) (B.tk ()) (B.at_ hN ()) (B.vis hv ()) (pa ()) hd hcd he hpl, sd_actK hrv sa⟩
end
structure NeedT (P : Program) (w : World) (K : PySem.W.Frag) (mg : Str → Option Value) (base : Heap) (kn : Nat) (x : Str) (st : Stmt) (Ng psg : List Str) (fx : List Nat) (bodyG : (PL.P (List Arg) → PL.P Rv) → PL.P Fl) : Prop where
 ex : ∃ (g : Addr) (fd : FuncData), Fun K x x st g fd ∧ mg x = some (.ref g) ∧ Binds K fd psg []
 sc : FnScope Ng psg (defScope st)
 body : ∀ (g : Addr) (cdv : Value) (A : Around) (outer : List PySem.Env) (s : Shared) (H : Hp) (E : XK), CtxOk (fun _ : Unit => cxOf (L2.CX P w) P w K mg base Ng x (defScope st) g cdv A outer s H E) P w K mg base kn (WB E) Ng (defScope st) → ∀ act : PL.P (List Arg) → PL.P Rv,
  (∀ (e : Expr) (es : List Expr) (ga : PL.P (List Arg)) (p pos : Pos), starEach (e :: es) (cxOf (L2.CX P w) P w K mg base Ng x (defScope st) g cdv A outer s H E).env = (false, eval e (cxOf (L2.CX P w) P w K mg base Ng x (defScope st) g cdv A outer s H E).env) :: starEach es (cxOf (L2.CX P w) P w K mg base Ng x (defScope st) g cdv A outer s H E).env →
   (backTo pos (starEach es (cxOf (L2.CX P w) P w K mg base Ng x (defScope st) g cdv A outer s H E).env)).any (·.1) = false → BAa (fun _ : Unit => cxOf (L2.CX P w) P w K mg base Ng x (defScope st) g cdv A outer s H E) K (WB E) (e :: es) ga →
   BE (fun _ : Unit => cxOf (L2.CX P w) P w K mg base Ng x (defScope st) g cdv A outer s H E) K (WB E) (.Call (.Name "is_right" p) (e :: es) [] pos) (act ga)) →
  BSs (fun _ : Unit => cxOf (L2.CX P w) P w K mg base Ng x (defScope st) g cdv A outer s H E) K (WB E) fx (defBody st) (bodyG act)
def wa5 (j : Nat) (np : D → List D → Option (Option Exn)) (ga : PL.P (List D)) : PL.P Rv := ga.bind fun ds => fun ρ => match ρ[j]? with
 | some (.dat d) => (match np d ds with
  | some none => some (.ok (.dat (.s .non)) ρ)
  | some (some e) => some (.ex e ρ)
  | none => none)
 | _ => none
def fPart (np : List D → Option (Option Exn)) (ga : PL.P (List D)) : PL.P Rv := ga.bind fun ds => fun ρ => match np ds with
 | some none => some (.ok (.dat (.s .non)) ρ)
 | some (some e) => some (.ex e ρ)
 | none => none
def xay (cs : List Cell) : Option Exn → Out Rv
 | none => .ok (.dat (.s .non)) cs
 | some e => .ex e cs
section
variable {K : PySem.W.Frag} {C H : Hp}
theorem EnvOk.datas {ds : List D} {vs : List V} (ec : Ex C H) (tb : ∀ P, TabP K P → TS1 H P) (h : Iss K C ds vs) : EnvOk K C H (vs.map some) (ds.map .dat) := by
 refine ⟨by simp [h.length], ec, fun i c q => ?_, fun i j m m' a q1 q2 => ?_, tb⟩
 ·rw [List.getElem?_map] at q
  cases z : ds[i]? with
  | none => rw [z] at q; cases q
  | some d =>
   rw [z] at q
   cases q
   obtain ⟨v, h1, h2⟩ := h.get z
   exact ⟨some v, by simp [h1], v, rfl, h2⟩
 ·rw [List.getElem?_map] at q1
  cases z : ds[i]? with
  | none => rw [z] at q1; cases q1
  | some d => rw [z] at q1; cases q1
theorem ka0 {ds : List D} {vs : List V} {a : Addr} : ¬ qc (vs.map some) (ds.map .dat) a := fun ⟨i, m, q1, _⟩ => by
 rw [List.getElem?_map] at q1
 cases z : ds[i]? with
 | none => rw [z] at q1; cases q1
 | some d => rw [z] at q1; cases q1
theorem spF_part {n : Nat} {F : PL.P Rv} {ds : List D} {vs : List V} {r : Option Exn} {Q : VK} {E : XK} (ec : Ex C H) (tb : ∀ P, TabP K P → TS1 H P) (h : Iss K C ds vs) (hn : vs.length = n) (hF : F (ds.map .dat) = some (xay (ds.map .dat) r))
  (hok : r = none → ∀ C' H', Step C H C' H' (fun _ => False) → Q .non H') (hex : ∀ e, r = some e → ∀ d C' H', Step C H C' H' (fun _ => False) → ExnOk K C' e d → E (.ref e.c) d H') : spF K n F vs H Q E := by
 refine ⟨hn, C, _, _, EnvOk.datas ec tb h, hF, fun rv cs' z => ?_, fun e cs' z d C' H' p q => ?_⟩
 ·cases r with
  | some e => cases z
  | none =>
   cases z
   refine ⟨rfl, fun v C' H' p q => ?_⟩
   have e1 : v = .non := is_s_iff.mp (show Is K C' (.s .non) v from q)
   rw [e1]
   exact hok rfl C' H' (p.step.weak fun a z => absurd z ka0)
 ·cases r with
  | none => cases z
  | some e2 => cases z; exact hex e rfl d C' H' (p.step.weak fun a z => absurd z ka0) q
end
def q4L (K : PySem.W.Frag) (Pt : Addr) (lpos : Pos) (mk : Addr → NdefX.NF) (body : Expr) (j : Nat) (FN : Addr → (Heap → Prop) → List V → PL.P Rv) (W : WX) (σ : Sl) (Q : VK) : List V → Hp → Prop := fun vs H4 => ∃ (f c : Addr) (H3 : Hp) (z : V), σ[j]? = some (some z) ∧ Mkd H3 Pt lpos mk body f c H4 ∧ vs.length = 4 ∧ spF K 4 (FN f (LamO f (mk c) body) [z]) vs H4 Q (WE W σ)
section
variable {P : Program} {w : World} {K : PySem.W.Frag} {mg : Str → Option Value} {base : Heap} {kl : Nat} {X0 : Cx} {c Pt : Addr} {W : WX} {N : List Str} {sc : Scope} {xg : Str} {stg : Stmt} {Ng psg fx_ : List Str} {fx : List Nat} {bodyG : (PL.P (List Arg) → PL.P Rv) → PL.P Fl}
variable {params : Arguments} {body : Expr} {scope : Scope} {lpos p pos : Pos} {Nl psl : List Str} {y0 : Str} {fe f1 f2 f3 : PL.P Rv} {e1 e2 e3 : Expr} {j : Nat}
theorem qbh (B : CtxOk (fun _ : Unit => X0) P w K mg base (kl + 1 + 1) W N sc) (hcode : X0.env.code = .ref c) (hq : X0.env.qual ++ "<lambda>" = lamQ) (hfn : ∀ x, X0.fn x = true) (TB : LamX.TabB base mg c Pt) (hP : TabP K Pt)
  (hT : NeedT P w K mg base (kl + 1) xg stg Ng psg fx bodyG) (hp4 : psg.length = 4) (h4 : 4 ≤ Ng.length) (i3 : Ng[3]? = some ("is_right" : Str)) (v3 : Vis (defScope stg) ("is_right" : Str)) (hgl : sc.names.lookup xg = some .globalImplicit) (hdb : (xg == ("__debug__" : Str)) = false)
  (S : NdefX.NScope Nl psl [y0] scope) (hl2 : psl.length = 2) (hl3 : 2 + 1 ≤ Nl.length) (hfree : ∀ y ∈ scope.names, y.2 = .free → sc.names.lookup y.1 = some .cell ∨ sc.names.lookup y.1 = some .free) (hfr : ∀ y ∈ [y0], (y, NameKind.free) ∈ scope.names) (hj : N[j]? = some y0)
  (hbind : ∀ (q : Str) (cl : List (Str × Addr)) (pm cv ctv : Value) (us : List Value), us.length = psl.length → bindArgs (PySem.W.kla_fn "<lambda>" q params body scope cl pm cv ctv) ⟨us, []⟩ = pure (psl.zip us)) (hdef : defaultsOf params X0.env = ([], []))
  (hlam : ∀ (cl : List (Str × Addr)) (c' f : Addr) (A : Around) (outer : List Env) (s : Shared) (H : Hp) (E : XK), CtxOk (fun _ : Unit => NdefX.ncx (L2.CX P w) P w K mg base Nl (lamF lamQ params scope cl c') f A outer s H E) P w K mg base kl (WB E) Nl scope →
   BE (fun _ : Unit => NdefX.ncx (L2.CX P w) P w K mg base Nl (lamF lamQ params scope cl c') f A outer s H E) K (WB E) body fe)
  (np : D → List D → Option (Option Exn)) (hnp : ∀ (f : Addr) (φ : Heap → Prop) (z : V) (d : D) (ds : List D) (r : Option Exn), np d ds = some r →
   ds.length = 3 ∧ runF fx Ng.length (bodyG (fAct f φ [z] 2 1 (runF [] Nl.length (sRet fe)) 3)) ((ds ++ [D.lam f φ [z] [d]]).map .dat) = some (xay ((ds ++ [D.lam f φ [z] [d]]).map .dat) r))
  (h1 : BE (fun _ : Unit => X0) K W e1 f1) (h2 : BE (fun _ : Unit => X0) K W e2 f2) (h3 : BE (fun _ : Unit => X0) K W e3 f3)
  (s1 : starEach [e1, e2, e3, .Lambda params body scope lpos] X0.env = (false, eval e1 X0.env) :: starEach [e2, e3, .Lambda params body scope lpos] X0.env) (s2 : starEach [e2, e3, .Lambda params body scope lpos] X0.env = (false, eval e2 X0.env) :: starEach [e3, .Lambda params body scope lpos] X0.env)
  (s3 : starEach [e3, .Lambda params body scope lpos] X0.env = (false, eval e3 X0.env) :: starEach [.Lambda params body scope lpos] X0.env) (s4 : starEach [.Lambda params body scope lpos] X0.env = (false, eval (.Lambda params body scope lpos) X0.env) :: starEach [] X0.env) (hpl : (backTo pos (starEach [e2, e3, .Lambda params body scope lpos] X0.env)).any (·.1) = false) :
  BE (fun _ : Unit => X0) K W (.Call (.Name xg p) [e1, e2, e3, .Lambda params body scope lpos] [] pos) (wa5 j np (ya f1 (ya f2 (ya f3 vNil)))) := by
 obtain ⟨t1, p1, d1⟩ := h1
 obtain ⟨t2, p2, d2⟩ := h2
 obtain ⟨t3, p3, d3⟩ := h3
 obtain ⟨g, fd, Fg, hmg, hbg⟩ := hT.ex
 obtain ⟨oc, od, kV, doc, pm, an, cdv, ct, osl, rfl, lk, hcd⟩ := Fg.ex
 have eP := B.pP (); have ew := B.pw (); have eK := B.pK (); have em := B.pm (); have eb := B.pb ()
 have en := B.nN (); have es := B.ns ()
 subst eP ew eK em eb
 refine ⟨fun σ H Q => (tCons t1 (tCons t2 (tCons t3 (tCons (tLamE Pt lpos (fun c' => lamF lamQ params scope (cloFrom X0.env.cells scope.names []) c') body) tNil)))) σ H
  (q4L X0.K Pt lpos (fun c' => lamF lamQ params scope (cloFrom X0.env.cells scope.names []) c') body j (fun f φ zs => runF fx Ng.length (bodyG (fAct f φ zs 2 1 (runF [] Nl.length (sRet fe)) 3))) W σ Q), fun _ => ⟨fun pins s σ H Q I h => ?_⟩, ?_⟩
 ·have pe4 := pe_lamE (X := X0) (body := body) (scope := scope) (lpos := lpos) TB hcode hq hdef (by rw [es]; exact hfree)
  have pa := pa_cons (p1 ()) (pa_cons (p2 ()) (pa_cons (p3 ()) (pa_cons pe4 pa_nil s4) s3) s2) s1
  refine wpAny_Call_Name_kw (ld_glob I (B.gl hgl ()) hmg ?_ hdb)
  refine PySem.W.callWith_K (h₀ := X0.base) I.ok.mod.kin Fg.kp (thn (pa.run pos pins s σ H _ I h) fun us s2 ⟨vs, H2, I2, r, f, c', H3, z, hz, m, hl, hsp⟩ => ⟨I2.kIn, ?_⟩) s1 hpl
  have hul : us.length = psg.length := by rw [← r.length, hl, hp4]
  have hbt := hbg s2 us I2.kIn (by rw [List.append_nil]; exact hul)
  rw [List.append_nil] at hbt
  have rc : codeAny (model X0.prog X0.w) X0.A (.call (.ref g) ⟨us, []⟩) (CR (L2.CX X0.prog X0.w) X0.stack X0.prog X0.w H2 s2 Q (WE W σ)) s2 := by
   refine LamX.run_ofS (N := Ng) (ps := psg) lk hcd hT.sc (B.room ()) I2.env0 hbt r (by rw [hl, hp4]) fun hr' => ?_
   have C1 : CtxOk (fun _ : Unit => cxOf (L2.CX X0.prog X0.w) X0.prog X0.w X0.K X0.mg X0.base Ng xg (defScope stg) g cdv X0.A X0.stack s2 H2 (WE W σ)) X0.prog X0.w X0.K X0.mg X0.base (kl + 1) (WB (WE W σ)) Ng (defScope stg) :=
    ⟨fun _ => rfl, fun _ => rfl, fun _ => rfl, fun _ => rfl, fun _ => rfl, fun _ => hr', fun _ => takes_of rfl rfl rfl rfl, fun _ => rfl, fun _ => passes_of rfl, fun _ => rfl, fun _ => rfl, hT.sc.nd⟩
   have hlr : LamRun X0.prog X0.w X0.K X0.mg X0.base (kl + 1) f (lamF lamQ params scope (cloFrom X0.env.cells scope.names []) c') body [y0] (spL X0.K 2 1 (runF [] Nl.length (sRet fe))) :=
    lam_ok S (fun pm ctv us h => hbind _ _ _ _ _ us h) hl2 rfl hl3 fun A outer s H E hB => hlam _ c' f A outer s H E hB
   have hfreeX : ∀ y ∈ scope.names, y.2 = .free → X0.env.scope.names.lookup y.1 = some .cell ∨ X0.env.scope.names.lookup y.1 = some .free := by rw [es]; exact hfree
   have caps : NdefX.Caps X0 (cloFrom X0.env.cells scope.names []) [y0] [j] := NdefX.Caps.made I2.ok hfreeX hfr (by rw [List.map_cons, List.map_nil, en, hj]; rfl)
   have hcells := NdefX.cells_of I2 caps
   have hz2 : [j].map (NdefX.slotAt σ) = ([z] : List V).map some := by rw [List.map_cons, List.map_nil, NdefX.slotAt_of hz]; rfl
   rw [hz2] at hcells
   have act : ActOk X0.prog X0.w X0.K X0.mg X0.base (kl + 1) (cxOf (L2.CX X0.prog X0.w) X0.prog X0.w X0.K X0.mg X0.base Ng xg (defScope stg) g cdv X0.A X0.stack s2 H2 (WE W σ)) Pt f (lamF lamQ params scope (cloFrom X0.env.cells scope.names []) c') body [y0] [z] 2 1 (runF [] Nl.length (sRet fe)) := by
    refine ⟨hlr, ⟨lpos, m.told⟩, fun y a ha hb => ?_, hcells, rfl, rfl⟩
    have ha2 := caps.sub y a ha
    obtain ⟨v, o, ho, hd⟩ := I2.cell y a ha2
    rcases List.mem_cons.mp (I2.stkSub a hb) with e | e
    ·obtain ⟨mm, ⟨o2, es2, ep2, k1, k2, _⟩, _⟩ := I2.loc
     rw [← e, ho] at k1
     cases k1
     rw [hd] at k2; cases k2
    ·obtain ⟨_, o3, k1, _⟩ := I2.ok.funs.mem e
     have := I2.ok.cab y a (hfn y) ha2
     exact absurd (Heap.lt_size k1) (Nat.not_lt.mpr this)
   obtain ⟨t, ht, hs⟩ := hT.body g cdv X0.A X0.stack s2 H2 (WE W σ) C1 (fAct f (LamO f (lamF lamQ params scope (cloFrom X0.env.cells scope.names []) c') body) [z] 2 1 (runF [] Nl.length (sRet fe)) 3)
    fun e es ga p pos he hpl ha => be_actL C1 act hP (fun cs r cs' => runF_rvD cs r cs') 3 i3 v3 (by decide) (by decide) he hpl ha
   exact ⟨t, ht (), wbm hs h4 hsp⟩
  refine wpAny_call (codeAny_mono rc fun r s' hq => ?_)
  cases r with
  | error e => exact passAt (B.tk ()) σ pins H2 s2 e s' I2 hq
  | ok fl =>
   cases fl with
   | ret u => exact I2.after hq
   | next => exact False.elim hq
   | brk => exact False.elim hq
   | cont => exact False.elim hq
 ·intro σ C H ρ e
  have hg := yaa d1 (yaa d2 (yaa d3 (sg_nil (K := X0.K) (W := W))))
  show At X0.K W (VRel X0.K H) σ C H ρ (fun H Q => tCons t1 (tCons t2 (tCons t3 tNil)) σ H fun vs H3 => TS1 H3 Pt ∧ ∀ (f c : Addr) (H4 : Hp), Mkd H3 Pt lpos (fun c' => lamF lamQ params scope (cloFrom X0.env.cells scope.names []) c') body f c H4 →
   q4L X0.K Pt lpos (fun c' => lamF lamQ params scope (cloFrom X0.env.cells scope.names []) c') body j (fun f φ zs => runF fx Ng.length (bodyG (fAct f φ zs 2 1 (runF [] Nl.length (sRet fe)) 3))) W σ Q (vs ++ [.ref f]) H4) (jf (ya f1 (ya f2 (ya f3 vNil)) ρ) _)
  refine At.bind (tk := fun (vs : List V) (H3 : Hp) (Q : VK) => TS1 H3 Pt ∧ ∀ (f c : Addr) (H4 : Hp), Mkd H3 Pt lpos (fun c' => lamF lamQ params scope (cloFrom X0.env.cells scope.names []) c') body f c H4 →
   q4L X0.K Pt lpos (fun c' => lamF lamQ params scope (cloFrom X0.env.cells scope.names []) c') body j (fun f φ zs => runF fx Ng.length (bodyG (fAct f φ zs 2 1 (runF [] Nl.length (sRet fe)) 3))) W σ Q (vs ++ [.ref f]) H4) (hg σ C H ρ e) fun ds ρ1 vs C1 H3 q1 r1 => ?_
  have r1 : Iss X0.K C1 ds vs := r1
  cases z1 : ρ1[j]? with
  | none => exact At.nil
  | some cc =>
   obtain ⟨v, hv, ok⟩ := q1.env.cell j cc z1
   cases cc with
   | no => exact At.nil
   | own m => exact At.nil
   | dat d =>
    obtain ⟨z, rfl, hz⟩ := ok
    dsimp only
    intro out Q ho hok hex
    cases q2 : np d ds with
    | none => rw [q2] at ho; cases ho
    | some r =>
     rw [q2] at ho
     refine ⟨q1.env.tab Pt hP, fun f c' H4 m => ?_⟩
     have n1 : C1 f = none := q1.env.ext.none m.new
     have st : Step C1 H3 (upd C1 f (.ext (LamO f (lamF lamQ params scope (cloFrom X0.env.cells scope.names []) c') body))) H4 (fun _ => False) := by
      refine ⟨Ex.new n1, ⟨fun b o hb nt => ?_, fun b hb => ?_⟩, fun b o hb nt _ => m.ex.1 b o hb nt, fun b h1 h2 => ?_, m.ex.2, m.tabs⟩
      ·by_cases e : b = f
       ·subst e; rw [upd_same] at hb; cases hb; exact m.fn
       ·rw [upd_ne e] at hb; exact m.ex.1 b o (q1.env.ext.1 b o hb nt) nt
      ·by_cases e : b = f
       ·subst e; rw [m.fn] at hb; cases hb
       ·rw [upd_ne e]; exact q1.env.ext.2 b (m.ex.2 b hb)
      ·by_cases e : b = f
       ·exact .inl (by rw [e]; exact m.new)
       ·rw [upd_ne e] at h2; exact absurd h1 h2
     have e4 := q1.env.step st
     have iss4 : Iss X0.K (upd C1 f (.ext (LamO f (lamF lamQ params scope (cloFrom X0.env.cells scope.names []) c') body))) (ds ++ [D.lam f (LamO f (lamF lamQ params scope (cloFrom X0.env.cells scope.names []) c') body) [z] [d]]) (vs ++ [.ref f]) :=
      (Iss.mono st.core _ _ r1).app (kc (is_lam_iff.mpr ⟨rfl, upd_same, kc (Is.mono st.core _ _ hz) qf⟩) qf)
     have hl : (vs ++ [V.ref f]).length = 4 := by
      have hh := hnp f (LamO f (lamF lamQ params scope (cloFrom X0.env.cells scope.names []) c') body) z d ds r q2
      rw [List.length_append, r1.length, hh.1]; rfl
     refine ⟨f, c', H3, z, hv, m, hl, spF_part e4.ext e4.tab iss4 hl (hnp _ _ _ _ _ _ q2).2 (fun hr C' H' s' => ?_) fun ee hr dd C' H' s' k => ?_⟩
     ·subst hr
      cases ho
      exact hok _ _ rfl .non C' H' (Post.of_step q1.env (st.trans s' fun _ z => z.elim)) (show Is X0.K C' (.s .non) .non from is_s)
     ·subst hr
      cases ho
      exact hex ee _ rfl dd C' H' (Post.of_step q1.env (st.trans s' fun _ z => z.elim)) k
end
end PL
namespace PL
open PySem L2 PySem.Spec PyProof.Rows
section
variable {ι : Type} {X : ι → Cx} {P : Program} {w : World} {K : PySem.W.Frag} {mg : Str → Option Value} {base : Heap} {kn : Nat} {W : WX} {N : List Str} {sc : Scope} {xg xk : Str} {stg : Stmt} {Ng psg : List Str} {fx : List Nat} {bodyG : (PL.P (List Arg) → PL.P Rv) → PL.P Fl}
variable {p p2 pos : Pos} {f1 f2 f3 Fk : PL.P Rv} {e1 e2 e3 : Expr}
theorem be_needK (B : CtxOk X P w K mg base (kn + 1) W N sc) (hT : NeedT P w K mg base kn xg stg Ng psg fx bodyG) (hp4 : psg.length = 4) (h4 : 4 ≤ Ng.length) (i3 : Ng[3]? = some ("is_right" : Str)) (v3 : Vis (defScope stg) ("is_right" : Str)) (hK : xak P w K mg base kn xk 2 Fk)
  (np : List D → Option (Option Exn)) (hnp : ∀ (g : Addr) (ds : List D) (r : Option Exn), np ds = some r → ds.length = 3 ∧ runF fx Ng.length (bodyG (xaq g 2 Fk 3)) ((ds ++ [D.s (.ref g)]).map .dat) = some (xay ((ds ++ [D.s (.ref g)]).map .dat) r))
  (h1 : BE X K W e1 f1) (h2 : BE X K W e2 f2) (h3 : BE X K W e3 f3)
  (hgl : sc.names.lookup xg = some .globalImplicit := by rfl) (hdb : (xg == ("__debug__" : Str)) = false := by decide) (hgk : sc.names.lookup xk = some .globalImplicit := by rfl) (hdk : (xk == ("__debug__" : Str)) = false := by decide)
  (s1 : ∀ i, starEach [e1, e2, e3, .Name xk p2] (X i).env = (false, eval e1 (X i).env) :: starEach [e2, e3, .Name xk p2] (X i).env := by intro _; rfl) (s2 : ∀ i, starEach [e2, e3, .Name xk p2] (X i).env = (false, eval e2 (X i).env) :: starEach [e3, .Name xk p2] (X i).env := by intro _; rfl)
  (s3 : ∀ i, starEach [e3, .Name xk p2] (X i).env = (false, eval e3 (X i).env) :: starEach [.Name xk p2] (X i).env := by intro _; rfl) (s4 : ∀ i, starEach [.Name xk p2] (X i).env = (false, eval (.Name xk p2) (X i).env) :: starEach [] (X i).env := by intro _; rfl) (hpl : ∀ i, (backTo pos (starEach [e2, e3, .Name xk p2] (X i).env)).any (·.1) = false := by intro _; rfl) :
  BE X K W (.Call (.Name xg p) [e1, e2, e3, .Name xk p2] [] pos) (fPart np (ya f1 (ya f2 (ya f3 vNil)))) := by
 obtain ⟨t1, p1, d1⟩ := h1
 obtain ⟨t2, p2', d2⟩ := h2
 obtain ⟨t3, p3, d3⟩ := h3
 obtain ⟨g, fd, Fg, hmg, hbg⟩ := hT.ex
 obtain ⟨gk, fdk, psk, k1, k2, k3, k4⟩ := hK.ex
 have fn : FnOk P w K mg base (L2.CX P w) (kn + 1) g fd psg (spF K 4 (runF fx Ng.length (bodyG (xaq gk 2 Fk 3)))) :=
  def_fn Fg hT.sc hp4 h4 fun cdv A outer s H E C1 => hT.body g cdv A outer s H E C1 (xaq gk 2 Fk 3) fun e es ga p pos he hpl ha => be_actK C1 k1 k3 k4 hK.rv 3 i3 v3 (by decide) (by decide) he hpl ha
 have hg4 : ∀ i, PE (X i) (.Name xk p2) (tC (.ref gk)) := fun i => pe_glob (B.gl hgk i) (by rw [B.pm i]; exact k2) (show RelV (.ref gk) (.ref gk) from rfl) hdk
 refine ⟨_, fun i => pe_callE (B.pP i) (B.pw i) (B.pK i) (B.pm i) (B.pb i) (B.tk i) fn (B.room i) (B.gl hgl i) hmg Fg.kp hbg (pa_cons (p1 i) (pa_cons (p2' i) (pa_cons (p3 i) (pa_cons (hg4 i) pa_nil (s4 i)) (s3 i)) (s2 i)) (s1 i)) hdb (s1 i) (hpl i), ?_⟩
 intro σ C H ρ e
 have hg := yaa d1 (yaa d2 (yaa d3 (sg_nil (K := K) (W := W))))
 show At K W (VRel K H) σ C H ρ (fun H Q => tCons t1 (tCons t2 (tCons t3 tNil)) σ H fun vs H3 => spF K 4 (runF fx Ng.length (bodyG (xaq gk 2 Fk 3))) (vs ++ [.ref gk]) H3 Q (WE W σ)) (jf (ya f1 (ya f2 (ya f3 vNil)) ρ) _)
 refine At.bind (tk := fun (vs : List V) (H3 : Hp) (Q : VK) => spF K 4 (runF fx Ng.length (bodyG (xaq gk 2 Fk 3))) (vs ++ [.ref gk]) H3 Q (WE W σ)) (hg σ C H ρ e) fun ds ρ1 vs C1 H3 q1 r1 => ?_
 have r1 : Iss K C1 ds vs := r1
 intro out Q ho hok hex
 cases q2 : np ds with
 | none => rw [q2] at ho; cases ho
 | some r =>
  rw [q2] at ho
  have hh := hnp gk ds r q2
  have iss4 : Iss K C1 (ds ++ [D.s (.ref gk)]) (vs ++ [.ref gk]) := r1.app (kc is_s qf)
  refine spF_part q1.env.ext q1.env.tab iss4 (by rw [List.length_append, r1.length, hh.1]; rfl) hh.2 (fun hr C' H' s' => ?_) fun ee hr dd C' H' s' k => ?_
  ·subst hr
   cases ho
   exact hok _ _ rfl .non C' H' (Post.of_step q1.env s') (show Is K C' (.s .non) .non from is_s)
  ·subst hr
   cases ho
   exact hex ee _ rfl dd C' H' (Post.of_step q1.env s') k
end
section
variable {ι : Type} {X : ι → Cx} {P : Program} {w : World} {K : PySem.W.Frag} {mg : Str → Option Value} {base : Heap} {k : Nat} {W : WX} {N : List Str} {sc : Scope} {x : Str} {pos : Pos}
theorem be_globD {d : D} (B : CtxOk X P w K mg base k W N sc) (h : ∃ (v : V) (u : Value), mg x = some u ∧ RelV v u ∧ ∀ C, Is K C d v) (hg : sc.names.lookup x = some .globalImplicit := by rfl) (hd : (x == ("__debug__" : Str)) = false := by decide) : BE X K W (.Name x pos) (fC d) := by
 obtain ⟨v, u, hm, r, hI⟩ := h
 exact ⟨_, fun i => pe_glob (B.gl hg i) (by rw [B.pm i]; exact hm) r hd, fun σ C H ρ e => At.ret (R := VRel K H) e (hI C)⟩
theorem tup_strs {a : Addr} {ys : List Str} (h : ∃ (o : Obj) (its : Array Value) (n : Nat), K.lookup a = some o ∧ o.cls = .type "tuple" ∧ o.dict = none ∧ o.data = .seq its n ∧ its.size ≤ sizeLine ∧ Vals (ys.map V.str) its.toList) (C : Hp) : Is K C (.tup (ys.map fun y => .s (.str y))) (.ref a) := by
 refine is_tup (xs := ys.map V.str) (.inr h) ?_
 clear h
 induction ys with
 | nil => exact qf
 | cons y ys ih => exact kc is_s ih
end
def va3 (F : P Rv) (cs : List Cell) : Option Bool := match F cs with
 | some (.ok (.dat (.s (.bl b))) cs') => some b
 | _ => none
section
variable {QR : Rv → En → Prop} {E : Exn → En → Prop} {ρ : En}
theorem wp_part {np : List D → Option (Option Exn)} {ga : P (List D)} : wp (fPart np ga) QR E ρ ↔ wp ga (fun ds r => wpO (np ds) fun o => match o with | none => QR (.dat (.s .non)) r | some e => E e r) E ρ := by
 unfold fPart
 rw [wp_bind]
 refine qe fun ds r => ?_
 unfold wp wpO
 dsimp only
 cases np ds with
 | none => exact Iff.rfl
 | some o => cases o <;> exact Iff.rfl
theorem wp_partL {j : Nat} {np : D → List D → Option (Option Exn)} {ga : P (List D)} : wp (wa5 j np ga) QR E ρ ↔ wp ga (fun ds r => atS r j (datQ fun d => wpO (np d ds) fun o => match o with | none => QR (.dat (.s .non)) r | some e => E e r)) E ρ := by
 unfold wa5
 rw [wp_bind]
 refine qe fun ds r => ?_
 unfold wp wpO atS
 dsimp only
 cases r[j]? with
 | none => exact Iff.rfl
 | some c =>
  cases c with
  | no => exact Iff.rfl
  | own m => exact Iff.rfl
  | dat d =>
   simp only [datQ]
   cases np d ds with
   | none => exact Iff.rfl
   | some o => cases o <;> exact Iff.rfl
theorem wp_actK {g i n : Nat} {F : P Rv} {ga : P (List Arg)} : wp (xaq g n F i ga) QR E ρ ↔ atS ρ i (datQ fun d => d = .s (.ref g) ∧ wp ga (fun as r => wp (yam n F as) QR E r) E ρ) := by
 unfold xaq
 unfold atS
 cases q : ρ[i]? with
 | none => unfold wp; simp only [q]
 | some c =>
  cases c with
  | no => unfold wp; simp only [q, datQ]
  | own m => unfold wp; simp only [q, datQ]
  | dat d =>
   simp only [datQ]
   rw [← wp_bind]
   cases d with
   | s x =>
    cases x with
    | ref a =>
     by_cases h : a = g
     ·subst h
      have : wp (fun ρ0 => match ρ0[i]? with
       | some (.dat (.s (.ref f0))) => if f0 = a then (ga.bind (yam n F)) ρ0 else none
       | _ => none) QR E ρ ↔ wp (ga.bind (yam n F)) QR E ρ := by unfold wp; simp only [q, if_true]
      exact this.trans ⟨fun z => ⟨rfl, z⟩, fun z => z.2⟩
     ·have : ¬ (D.s (.ref a) = D.s (.ref g)) := fun z => h (by cases z; rfl)
      unfold wp; simp only [q, if_neg h]
      exact ⟨fun z => z.elim, fun z => this z.1⟩
    | _ => unfold wp; simp only [q]; exact ⟨fun z => z.elim, fun z => by cases z.1⟩
   | _ => unfold wp; simp only [q]; exact ⟨fun z => z.elim, fun z => by cases z.1⟩
theorem wp_act {f : Addr} {φ : Heap → Prop} {zs : List V} {i n m : Nat} {F : P Rv} {ga : P (List Arg)} {ks : List D} (hi : ρ[i]? = some (.dat (.lam f φ zs ks))) (hm : ks.length = m) : wp (fAct f φ zs n m F i ga) QR E ρ ↔ wp ga (fun as r => as.length = n ∧ wp (yam (n + m) F (as ++ ks.map .inl)) QR E r) E ρ := by
 have e : wp (fAct f φ zs n m F i ga) QR E ρ ↔ wp (ga.bind fun as => if as.length = n then yam (n + m) F (as ++ ks.map .inl) else PL.P.fail) QR E ρ := by
  unfold wp fAct; simp only [hi, hm, and_self, if_true]
 rw [e, wp_bind]
 refine qe fun as r => ?_
 by_cases h : as.length = n
 ·rw [if_pos h]; exact ⟨fun q => ⟨h, q⟩, fun q => q.2⟩
 ·rw [if_neg h]; exact ⟨fun q => q.elim, fun q => h q.1⟩
end
end PL
namespace PL
open PySem L2 PySem.Spec PyProof.Rows
structure FunC (K : PySem.W.Frag) (x qual : Str) (st : Stmt) (f : Addr) (fd : FuncData) (c : Addr) : Prop where
 ex : ∃ (oc : Value) (od : Option Addr) (kV doc pm : Value) (an : Option Addr) (ct : Value) (osl : Array (Option Value)),
  fd = PySem.W.fnOf x qual (defArgs st) (defBody st) (defScope st) .none kV doc pm an (.ref c) ct ∧ K.lookup f = some ⟨oc, od, .func fd, osl⟩ ∧ PySem.W.codeIn K (.ref c) qual = true
theorem make_okC {P : Program} {w : World} {K : PySem.W.Frag} {mg : Str → Option Value} {base : Heap} {k : Nat} {m x qual : Str} {fx : List Nat} {NN ps : List Str} {n : Nat} {st : Stmt} {f c : Addr} {fd : FuncData} {body : PL.P Fl} {C : Addr} (F : FunC K m qual st f fd c) (M : Mk K C f) (hm : mg x = some (.ref C)) (hb : Binds K fd ps []) (S : FnScope NN ps (defScope st)) (hn : ps.length = n + 1) (hN : n + 1 ≤ NN.length)
  (hbody : ∀ (A : Around) (outer : List PySem.Env) (s : Shared) (H : Hp) (E : XK), CtxOk (fun _ : Unit => cxOf (L2.CX P w) P w K mg base NN qual (defScope st) f (.ref c) A outer s H E) P w K mg base k (WB E) NN (defScope st) →
   BSs (fun _ : Unit => cxOf (L2.CX P w) P w K mg base NN qual (defScope st) f (.ref c) A outer s H E) K (WB E) fx (defBody st) body) : ka7 P w K mg base (k + 1) x n C (runF fx NN.length body) := by
 obtain ⟨oc, od, kV, doc, pm, an, ct, osl, rfl, lk, hcd⟩ := F.ex
 refine ⟨⟨f, _, ps, fn_of lk hcd S (fun vs H Q E h => by rw [hn]; exact h.1) fun A outer s H vs Q E hr hsp => ?_, M, hm, hb⟩⟩
 obtain ⟨t, h1, h2⟩ := hbody A outer s H E ⟨fun _ => rfl, fun _ => rfl, fun _ => rfl, fun _ => rfl, fun _ => rfl, fun _ => hr, fun _ => takes_of rfl rfl rfl rfl, fun _ => rfl, fun _ => passes_of rfl, fun _ => rfl, fun _ => rfl, S.nd⟩
 exact ⟨t, h1 (), wbm h2 hN hsp⟩
structure MethAtC (K : PySem.W.Frag) (C : Addr) (m qual : Str) (st : Stmt) (f c : Addr) : Prop where
 at_ : PySem.W.findIn K (.ref C) m = some (some (.ref f))
 isf : PySem.W.isFn K (.ref f) = true
 kp : PySem.W.keepIn K (.ref f) = true
 ex : ∃ (oc : Value) (od : Option Addr) (dc pm : Value) (an : Option Addr) (ct : Value) (sl : Array (Option Value)) (kV : Value), K.lookup f = some ⟨oc, od, .func (PySem.W.fnOf m qual (defArgs st) (defBody st) (defScope st) .none kV dc pm an (.ref c) ct), sl⟩ ∧ PySem.W.codeIn K (.ref c) qual = true
theorem MethAtC.of {K : PySem.W.Frag} {C c0 : Addr} {m qual : Str} {st : Stmt} {f : Addr} {oc : Value} {od : Option Addr} {dc pm : Value} {an : Option Addr} {ct : Value} {sl : Array (Option Value)} {kV : Value} (a : PySem.W.findIn K (.ref C) m = some (some (.ref f))) (l : K.lookup f = some ⟨oc, od, .func (PySem.W.fnOf m qual (defArgs st) (defBody st) (defScope st) .none kV dc pm an (.ref c0) ct), sl⟩) (c : PySem.W.codeIn K (.ref c0) qual = true) (k : PySem.W.keepIn K (.ref f) = true) (i : PySem.W.isFn K (.ref f) = true) : MethAtC K C m qual st f c0 :=
 ⟨a, i, k, _, _, _, _, _, _, _, _, l, c⟩
theorem MethAtC.fnC {K : PySem.W.Frag} {C c : Addr} {m q : Str} {st : Stmt} {f : Addr} (a : MethAtC K C m q st f c) : ∃ fd, FunC K m q st f fd c ∧ Fun K m q st f fd := by
 obtain ⟨oc, od, dc, pm, an, ct, sl, kV, l, h⟩ := a.ex
 exact ⟨_, ⟨⟨oc, od, kV, dc, pm, an, ct, sl, rfl, l, h⟩⟩, fun_mk l h a.kp⟩
theorem MethAtC.mkOk {K : PySem.W.Frag} {C c : Addr} {q : Str} {st : Stmt} {f : Addr} (a : MethAtC K C "__init__" q st f c) (h : PySem.W.makesIn K C = true) (k : PySem.W.keepIn K (.ref C) = true) : Mk K C f := ⟨h, a.at_, a.isf, k⟩
theorem MethAtC.tabP {K : PySem.W.Frag} {C c Pt : Addr} {q : Str} {st : Stmt} {f : Addr} (a : MethAtC K C "__init__" q st f c) (g : PySem.W.nsIn K mainGlobals "Table" = some (some (.ref C))) (h : PySem.W.codeHdIn K c Pt = true) : TabP K Pt := by
 obtain ⟨oc, od, dc, pm, an, ct, sl, kV, l, _⟩ := a.ex
 exact ⟨C, f, _, _, c, g, a.at_, l, rfl, rfl, h⟩
theorem MethAtC.tab_only {K : PySem.W.Frag} {C c Pt P : Addr} {q : Str} {st : Stmt} {f : Addr} (a : MethAtC K C "__init__" q st f c) (g : PySem.W.nsIn K mainGlobals "Table" = some (some (.ref C))) (h : PySem.W.codeHdIn K c Pt = true) (hP : TabP K P) : P = Pt := by
 obtain ⟨C', f', o, fd, c', g1, g2, g3, g4, g5, g6⟩ := hP
 obtain ⟨oc, od, dc, pm, an, ct, sl, kV, l, _⟩ := a.ex
 rw [g] at g1; cases g1
 rw [a.at_] at g2; cases g2
 rw [l] at g3; cases g3
 cases g4
 cases g5
 unfold PySem.W.codeHdIn at h g6
 split at h
 ·rename_i vs _ hk
  rw [hk] at g6
  simp only [Bool.and_eq_true] at h g6
  obtain ⟨⟨⟨⟨⟨e1, _⟩, _⟩, _⟩, _⟩, _⟩ := h
  obtain ⟨⟨⟨⟨⟨e2, _⟩, _⟩, _⟩, _⟩, _⟩ := g6
  split at e1
  ·rename_i P1 z1
   split at e2
   ·rename_i P2 z2
    rw [z1] at z2
    cases z2
    exact (beq_iff_eq.mp e2).symm.trans (beq_iff_eq.mp e1)
   ·cases e2
  ·cases e1
 ·cases h
end PL
set_option maxHeartbeats 2000000
namespace PySem
open Sem (wp)
open AutoSeq1 (wpAny_loadPart')
theorem kbp (l : Addr) (items : Array Value) (n : Nat) (dct : Option Addr) (sl : Array (Option Value)) : Meets (Builtin.«enumerate.__new__» ⟨[.type "enumerate", .ref l], []⟩)
  (fun _ R s => s.heap.get? l = some { cls := .type "tuple", dict := dct, data := .seq items n, slots := sl } ∧ R (.ok (.ret (.ref (s.heap.push { cls := .type "tuple_iterator", data := .fields #[.ref l, .int 0 0] }).objs.size)))
   { s with heap := (s.heap.push { cls := .type "tuple_iterator", data := .fields #[.ref l, .int 0 0] }).push { cls := .type "enumerate", data := .fields #[.none, .bool false, .ref s.heap.objs.size, rawInt 0, .none, .none] } }) :=
 .of_wp fun prog w A R s q => by
  obtain ⟨hp, g, d, tk, os⟩ := s
  obtain ⟨h1, q⟩ := q
  have hs := sub_enumerate
  have hT : Heap.IsTuple (Shared.heap ⟨hp, g, d, tk, os⟩) l items := ⟨_, h1, rfl, n, rfl⟩
  wp_walk using wpAny_loadPart' h1
  refine wpAny_stack_any fun st => wpAny_pure ?_
  split
  ·rename_i c _ _ _ _ _
   cases (c == Value.type "enumerate") <;> (wp_walk using wpAny_loadPart' h1, wpAny_pyIter_tuple hT; exact ⟨_, rfl, q⟩)
  ·wp_walk using wpAny_loadPart' h1, wpAny_pyIter_tuple hT
   exact ⟨_, rfl, q⟩
theorem call_enumT {prog : Program} {w : World} {A : Around} {E : Value → Shared → Prop} {s : Shared} {l : Addr} {items : Array Value} {Q : Value → Shared → Prop} (hT : s.heap.IsTuple l items)
  (h : ∀ h', IsEnum h' (s.heap.objs.size + 1) s.heap.objs.size 0 .none → h'.IsTupleIter s.heap.objs.size l 0 → (∀ b o, s.heap.get? b = some o → h'.get? b = some o) → Q (.ref (s.heap.objs.size + 1)) { s with heap := h' }) :
  wpAny (model prog w) A (call (.type "enumerate") [.ref l]) Q E s := by
 obtain ⟨⟨c, dct, dt, sl⟩, hl, hc, n, hd⟩ := hT
 have hc : c = .type "tuple" := hc
 have hd : dt = .seq items n := hd
 subst hc hd
 refine callType_new F.called_enumerate (by decide) (F.typeCall_enumerate_1 _) (F.newCall_enumerate_1 _) (fun obj => F.args_object_init_2 obj _) F.entry_enumerate_new (kbp l items n dct sl) ⟨hl, ?_⟩
 have hz : (s.heap.push { cls := .type "tuple_iterator", data := .fields #[.ref l, .int 0 0] }).objs.size = s.heap.objs.size + 1 := Heap.size_push ..
 show _ ∧ _
 rw [hz]
 have he : IsEnum ((s.heap.push { cls := .type "tuple_iterator", data := .fields #[.ref l, .int 0 0] }).push { cls := .type "enumerate", data := .fields #[.none, .bool false, .ref s.heap.objs.size, rawInt 0, .none, .none] }) (s.heap.objs.size + 1) s.heap.objs.size 0 .none := by
  have q := Heap.get?_push_size (s.heap.push { cls := .type "tuple_iterator", data := .fields #[.ref l, .int 0 0] }) (o := { cls := .type "enumerate", data := .fields #[.none, .bool false, .ref s.heap.objs.size, rawInt 0, .none, .none] }) rfl
  rw [hz] at q
  exact q
 exact ⟨⟨_, he, rfl⟩, h _ he ⟨_, Heap.get?_push_of_some _ (Heap.get?_push_size _ rfl), rfl, rfl⟩ fun b o x => Heap.get?_push_of_some _ (Heap.get?_push_of_some _ x)⟩
end PySem
namespace PL
open PySem L2 PySem.Spec PyProof.Rows
def iEnumX (K : PySem.W.Frag) (ta : TA) : TI := fun σ H R => ta σ H fun vs H1 => (∃ a xs, vs = [.ref a] ∧ SqL K H1 a xs ∧ R (IteP true K a) H1) ∨ ∃ a xs, vs = [.ref a] ∧ SqT K H1 a xs ∧ R (IteP false K a) H1
theorem pi_enumX {X : Cx} {e : Expr} {ta : TA} {p pos tpos : Pos} {elts : List Expr} {kk : Nat} (hg : Gl X "enumerate") (hm : X.mg "enumerate" = none) (ha : PA X [e] ta) (hs : starEach [e] X.env = [(false, eval e X.env)]) : PI X (.Tuple elts kk tpos) (.Call (.Name "enumerate" p) [e] [] pos) (iEnumX X.K ta) := by
 refine ⟨fun pins s σ H R I h => ?_⟩
 refine Call_ (ld_blt I hg hm boot_enumerate (PyProof.Rows.callWith_type1 (thn (ha.run pos pins s σ H _ I h) fun us s1 ⟨vs, H1, I1, r1, q1⟩ => ?_) hs rfl))
 have fr : ∀ b, b ∈ [s1.heap.objs.size + 1, s1.heap.objs.size] → FpOk X pins H1 b := fun b hb => by
  have hle : s1.heap.objs.size ≤ b := by
   have z : b = s1.heap.objs.size + 1 ∨ b = s1.heap.objs.size := by simpa using hb
   rcases z with z | z <;> subst z <;> omega
  exact I1.fpOk hle (I1.hok.fresh hle)
 rcases q1 with ⟨a, xs, rfl, hq, q⟩ | ⟨a, xs, rfl, hq, q⟩
 ·cases r1 with
  | cons r rr =>
   cases rr
   cases r
   obtain ⟨its, rv, p', hz⟩ := I1.list hq
   refine call_enumerate_list p'.isList fun h' he hit hsz hk => wpAny_pyIter_enum he ?_
   have I2 : Inv X pins σ H1 { s1 with heap := h' } := I1.kept (t' := s1.toks) hk
   exact ⟨s1.heap.objs.size + 1, [s1.heap.objs.size + 1, s1.heap.objs.size], _, _, H1, rfl, I2, va4 true a (s1.heap.objs.size + 1) s1.heap.objs.size, ⟨⟨.none, he⟩, hit, Nat.succ_ne_self _, Nat.ne_of_lt p'.lt, Nat.ne_of_gt (Nat.lt_succ_of_lt p'.lt)⟩, fr, q⟩
 ·cases r1 with
  | cons r rr =>
   cases rr
   cases r
   obtain ⟨its, rv, p', hz⟩ := I1.tuple hq
   have hal : a < s1.heap.objs.size := by obtain ⟨o, ho, _⟩ := id p'; exact Heap.lt_size ho
   refine PySem.call_enumT (show s1.heap.IsTuple a its.toArray from p') fun h' he hit hk => wpAny_pyIter_enum he ?_
   have I2 : Inv X pins σ H1 { s1 with heap := h' } := I1.kept (t' := s1.toks) hk
   exact ⟨s1.heap.objs.size + 1, [s1.heap.objs.size + 1, s1.heap.objs.size], _, _, H1, rfl, I2, va4 false a (s1.heap.objs.size + 1) s1.heap.objs.size, ⟨⟨.none, he⟩, hit, Nat.succ_ne_self _, Nat.ne_of_lt hal, Nat.ne_of_gt (Nat.lt_succ_of_lt hal)⟩, fr, q⟩
def xbl (g : P (List D)) : P (List D) := g.bind fun ds => match ds with
 | [.lst es] => P.ret (yb 0 es)
 | [.ro es] => P.ret (yb 0 es)
 | [.tup es] => P.ret (yb 0 es)
 | _ => P.fail
section
variable {K : PySem.W.Frag} {W : WX}
theorem enum_get : ∀ {es : List D} {i k : Nat} {d : D}, (yb k es)[i]? = some d → ∃ x, es[i]? = some x ∧ d = .tup [.s (.int ((k + i : Nat) : Int)), x] := by
 intro es
 induction es with
 | nil => intro i k d h; simp [yb] at h
 | cons e es ih =>
  intro i k d h
  cases i with
  | zero => simp [yb] at h; exact ⟨e, rfl, by rw [← h]; rfl⟩
  | succ i =>
   simp [yb] at h
   obtain ⟨x, h1, h2⟩ := ih h
   exact ⟨x, by simpa using h1, by rw [h2, show k + 1 + i = k + (i + 1) by omega]⟩
theorem enum_len : ∀ {es : List D} {k : Nat}, (yb k es).length = es.length
 | [], _ => rfl
 | e :: es, k => by simp [yb, enum_len]
theorem sd_enumX {t : TA} {g : PL.P (List D)} (hf : Sd K W (j4 K) t g) : Sd K W (kaq K) (iEnumX K t) (xbl g) := by
 intro σ C H ρ e
 show At K W (kaq K H) σ C H ρ (fun H R => t σ H fun vs H1 => (∃ a xs, vs = [.ref a] ∧ SqL K H1 a xs ∧ R (IteP true K a) H1) ∨ ∃ a xs, vs = [.ref a] ∧ SqT K H1 a xs ∧ R (IteP false K a) H1) (jf (g ρ) fun ds => match ds with
  | [.lst es] => P.ret (yb 0 es)
  | [.ro es] => P.ret (yb 0 es)
  | [.tup es] => P.ret (yb 0 es)
  | _ => P.fail)
 refine At.bind (tk := fun (vs : List V) (H1 : Hp) (R : It → Hp → Prop) => (∃ a xs, vs = [.ref a] ∧ SqL K H1 a xs ∧ R (IteP true K a) H1) ∨ ∃ a xs, vs = [.ref a] ∧ SqT K H1 a xs ∧ R (IteP false K a) H1) (hf σ C H ρ e) fun ds ρ1 vs C1 H1 p1 r1 => ?_
 split
 ·obtain ⟨v, r, rfl, k1, k2⟩ := iss_cons_iff.mp r1
  cases iss_nil_iff.mp k2
  obtain ⟨a, xs, rfl, k3, k4⟩ := is_lst_iff.mp k1
  exact At.imp (At.ret (R := kaq K H) p1.env (xbe (tt := true) (SqL.of k3) k4)) fun Q h => .inl ⟨a, xs, rfl, SqL.of (p1.env.ext.1 _ _ k3 ko), h⟩
 ·obtain ⟨v, r, rfl, k1, k2⟩ := iss_cons_iff.mp r1
  cases iss_nil_iff.mp k2
  obtain ⟨a, xs, rfl, k3, k4⟩ := is_ro_iff.mp k1
  exact At.imp (At.ret (R := kaq K H) p1.env (xbe (tt := true) k3 k4)) fun Q h => .inl ⟨a, xs, rfl, ex_l p1.env.ext k3, h⟩
 ·obtain ⟨v, r, rfl, k1, k2⟩ := iss_cons_iff.mp r1
  cases iss_nil_iff.mp k2
  obtain ⟨a, xs, rfl, k3, k4⟩ := yr k1
  exact At.imp (At.ret (R := kaq K H) p1.env (xbe (tt := false) k3 k4)) fun Q h => .inr ⟨a, xs, rfl, ex_t p1.env.ext k3, h⟩
 ·exact At.nil
end
section
variable {ι : Type} {X : ι → Cx} {P : Program} {w : World} {K : PySem.W.Frag} {mg : Str → Option Value} {base : Heap} {k : Nat} {W : WX} {N : List Str} {sc : Scope} {a : Expr} {gd : PL.P (List D)} {p pos tpos : Pos}
theorem bi_enumX {elts : List Expr} {kk : Nat} (B : CtxOk X P w K mg base k W N sc) (hm : mg "enumerate" = none) (ha : BAd X K W [a] gd) (hg : sc.names.lookup ("enumerate" : Str) = some .globalImplicit := by rfl) (hs : ∀ i, starEach [a] (X i).env = [(false, eval a (X i).env)] := by intro _; rfl) : BI X K W (.Tuple elts kk tpos) (.Call (.Name "enumerate" p) [a] [] pos) (xbl gd) := by
 obtain ⟨ta, pa, sa⟩ := ha
 exact ⟨_, fun i => by have := @pi_enumX (X i) a ta p pos tpos elts kk (B.gl hg i) (by rw [B.pm i]; exact hm) (pa i) (hs i); rw [B.pK i] at this; exact this, sd_enumX sa⟩
end
section
variable {QDs : List D → En → Prop} {E : Exn → En → Prop} {ρ : En}
def isSeq (d : D) (Q : List D → Prop) : Prop := match d with
 | .lst ds => Q ds
 | .ro ds => Q ds
 | .tup ds => Q ds
 | _ => False
theorem wbk {ds : List D} {Q : List D → Prop} : isSeq (.lst ds) Q ↔ Q ds := Iff.rfl
theorem isSeq_ro {ds : List D} {Q : List D → Prop} : isSeq (.ro ds) Q ↔ Q ds := Iff.rfl
theorem zah {ds : List D} {Q : List D → Prop} : isSeq (.tup ds) Q ↔ Q ds := Iff.rfl
theorem ka9 {g : P (List D)} : wp (xbl g) QDs E ρ ↔ wp g (fun ds r => one1 ds fun d => isSeq d fun es => QDs (yb 0 es) r) E ρ := by
 unfold xbl
 rw [wp_bind]
 refine qe fun ds r => ?_
 match ds with
 | [] => exact Iff.rfl
 | d :: e :: t => cases d <;> exact Iff.rfl
 | [d] => cases d <;> exact Iff.rfl
end
end PL
namespace PL
open PySem PySem.Spec PyProof.Rows L2
section
variable {X : Cx} {pins : List (Addr × Obj)} {σ : L2.St} {H : Hp} {s : Shared}
theorem exO_st {a c : Addr} {d : Option Addr} : ∀ h1 h2 : Heap, ExO a c d h1 → (∀ o, h1.get? a = some o → h2.get? a = some o) → ExO a c d h2 := fun _ _ ⟨o, vs, e1, e2, e3⟩ k => ⟨o, vs, k o e1, e2, e3⟩
theorem inv_tell (I : Inv X pins σ H s) {a c : Addr} {d : Option Addr} (hx : ExO a c d s.heap) (na : H a = none) (nL : a ≠ X.env.locals) (n0 : X.s_0.heap.get? a = none)
  (nc : ∀ y b, X.env.cells.lookup y = some b → b ≠ a) (np : ∀ p ∈ X.pn ++ pins, p.1 ≠ a) : Inv X pins σ (upd H a (.ext (ExO a c d))) s where
 ok := I.ok
 os := I.os
 bare := I.bare
 base := {
  keep := I.base.keep
  slot := I.base.slot
  free := fun b o q1 q2 q3 => by
   rw [upd_ne (fun z => by rw [z, n0] at q1; cases q1)]
   exact I.base.free b o q1 q2 q3
  there := I.base.there
  tups := fun b xs q => by
   have q2 := I.base.tups b xs q
   rw [upd_ne (fun z => by rw [z, na] at q2; cases q2)]
   exact q2
  frzs := fun b o u q => by
   have q2 := I.base.frzs b o u q
   rw [upd_ne (fun z => by rw [z, na] at q2; cases q2)]
   exact q2
  tbls := fun b ps q => by
   obtain ⟨more, q2⟩ := I.base.tbls b ps q
   refine ⟨more, ?_⟩
   rw [upd_ne (fun z => by rw [z, na] at q2; cases q2)]
   exact q2 }
 loc := I.loc
 cell := I.cell
 free := by rw [upd_ne (Ne.symm nL)]; exact I.free
 freeC := fun y b q => by rw [upd_ne (nc y b q)]; exact I.freeC y b q
 pin := fun p hp => by
  obtain ⟨p1, p2, p3⟩ := I.pin p hp
  exact ⟨p1, by rw [upd_ne (np p hp)]; exact p2, p3⟩
 hok := fun b u q => by
  by_cases e : b = a
  ·subst e
   rw [upd_same] at q
   cases q
   obtain ⟨o, vs, h1, h2, h3⟩ := hx
   exact ⟨⟨o, vs, h1, h2, h3⟩, ⟨o, h1⟩, exO_st⟩
  ·rw [upd_ne e] at q
   refine (I.hok b u q).stay (fun c' w' _ z => z) (fun r n => ?_) (fun r xs n => ?_)
   ·rw [upd_ne (fun z => by rw [z, na] at n; cases n)]
    exact n
   ·rw [upd_ne (fun z => by rw [z, na] at n; cases n)]
    exact n
 len := I.len
theorem qbl (I : Inv X pins σ H s) (a : Addr) : Inv (X.suite a (X.pn ++ pins)) [] σ H s :=
 ⟨I.ok.suite _ _, I.os, I.bare, I.base, I.loc, I.cell, I.free, I.freeC, fun p hp => I.pin p (by rwa [List.append_nil] at hp), I.hok, I.len⟩
theorem zbq {a : Addr} {pn' : List (Addr × Obj)} (I : Inv (X.suite a (X.pn ++ pins)) pn' σ H s) (ok : X.Ok) : Inv X pins σ H s :=
 ⟨ok, I.os, I.bare, I.base, I.loc, I.cell, I.free, I.freeC, fun p hp => I.pin p (List.mem_append_left _ hp), I.hok, I.len⟩
end
def wHold (K : PySem.W.Frag) (u : Value) (i : Nat) (ts : TS) (Wo : WX) (D : Ends) : WX := fun cls d σ H =>
 ∃ c b, cls = .ref c ∧ PySem.W.exmOne K cls u = some b ∧
  (b = true → ∀ a, H a = none → ts { nx := fun r H' => D.nx (r.set i none) H', rt := D.rt, bk := fun r H' => D.bk (r.set i none) H', ct := fun r H' => D.ct (r.set i none) H' } (σ.set i (some (.ref a))) (upd H a (.ext (ExO a c d)))) ∧
  (b = false → Wo cls d σ H)
theorem frs_not {B h : Heap} {l : List Env} {a : Addr} {o : Obj} {vs : Array Value} (ff : h.FunFrames B l) (e : h.get? a = some o) (ed : o.data = .fields vs) : a ∉ frs l := fun m => by
 obtain ⟨_, o2, e2, nd⟩ := ff.mem m
 rw [e] at e2
 cases e2
 exact nd _ ed
theorem wbo {X : Cx} {x n : Str} {u : Value} {i : Nat} {body rest : List Stmt} {b1 : Stmt} {np pos pos2 : Pos} {tb : WX → TS} {ts : TS} {Wo : WX} (hs : X.stack = X.env :: X.outer) (hf : X.env.frame = some X.env.locals) (hx : X.ex = []) (hN : X.N.Nodup) (hi : X.N[i]? = some n) (hl : X.env.kindOf n = some .local) (hc : Names X x u) (tk : Takes X Wo)
  (hb : ∀ (W : WX) (pn : List (Addr × Obj)) (xe : Value → Shared → Prop), Takes (X.tr pn xe) W → PassesOwn (model X.prog X.w) X.A X.env xe → PSs (X.tr pn xe) body (tb W))
  (hu : ∀ (a : Addr) (pn : List (Addr × Obj)), PSs (X.suite a pn) (b1 :: rest) ts) :
  PS X (.Try body [.ExceptHandler (some (.Name x np)) (some n) (b1 :: rest) pos2] [] [] pos) (fun D σ H => tb (wHold X.K u i ts Wo D) D σ H) := by
 refine ⟨fun pins s σ H D I h => wpAny_Try_except ?_⟩
 have ok := I.ok
 have hA : X.A.frames = some (X.env :: X.outer) := by rw [ok.frames, hs]
 let xe1 : Value → Shared → Prop := fun e s1 => wpAny (model X.prog X.w) X.A (noteFrame e X.env) (fun _ s2 =>
  wpAny (model X.prog X.w) X.A (setFlight e none) (fun _ s3 =>
   wpAny (model X.prog X.w) X.A (handleBy e X.env [.ExceptHandler (some (.Name x np)) (some n) (b1 :: rest) pos2]) (SP X pins D) X.xe s3) X.xe s2) X.xe s1
 have caught : Takes (X.tr (X.pn ++ pins) xe1) (wHold X.K u i ts Wo D) := fun v s1 xx => by
  obtain ⟨a, B, sI, pins1, σ1, H1, cls, d, rfl, J0, nb, up, sky, na, os, ag, c, b, rfl, hb1, yes, no⟩ := xx
  have J : Inv X pins σ1 H1 sI := J0.ofTry ok
  have sky1 : Sky B (X.env :: X.outer) a (Zc (.ref c) d) X.env.locals s1.heap := by rw [← hs]; exact sky
  refine Sky.land Zc.steady hA hf sky1 fun h3 fl3 up3 => ?_
  have J3 : Inv X pins σ1 H1 { s1 with heap := h3 } := J.landed nb fl3.1 (up.trans up3) os ag
  obtain ⟨o3, vs3, e3, z3, d3⟩ := fl3.there
  have nfr := frs_not fl3.2.2.1 e3 d3
  have nL : a ≠ X.env.locals := fun z => nfr (List.mem_filterMap.mpr ⟨X.env, List.mem_cons_self, by rw [hf, z]⟩)
  have nI : sI.heap.get? a = none := by
   cases q : sI.heap.get? a with
   | none => rfl
   | some o =>
    have z := nb a o q (by rw [hs]; exact nfr)
    have z2 : B.get? a = none := fl3.2.1
    rw [z2] at z; cases z
  have S3 : Inv (X.suite a (X.pn ++ pins)) [] σ1 H1 { s1 with heap := h3 } := qbl J3 a
  refine wpAny_handleBy_cons (codeAny_handlers_test ?_) (fun q => nomatch q)
  have LM := PySem.W.exm_one (M := model X.prog X.w) (J3.kIn) (fun A Q E s k q => wpAny_typeOf_ref (k _ _ e3) (by rw [z3.1]; exact q)) hb1
  have test : ∀ {Q E : Value → Shared → Prop}, Q u { s1 with heap := h3 } → wpAny (model X.prog X.w) (X.A.mark (some (.ref a))) (eval (.Name x np) X.env) Q E { s1 with heap := h3 } := fun {Q E} q => by
   obtain ⟨g1, g2, g3 | ⟨g3, g4, g5⟩⟩ := hc
   ·exact ld_glob (X := X.suite a (X.pn ++ pins)) S3 g1 g3 q g2
   ·exact ld_blt (X := X.suite a (X.pn ++ pins)) S3 g1 g3 g4 q g5 g2
  refine test (LM.here ?_)
  cases b with
  | true =>
   refine codeAny_handlers_suite_as (HandSPX.lands_againZ fl3 fun h4 fl4 up4 => ?_)
   have J4 : Inv X pins σ1 H1 { s1 with heap := h4 } := J.landed nb fl4.1 ((up.trans up3).trans up4) os ag
   obtain ⟨o4, vs4, e4, z4, d4⟩ := fl4.there
   have T4 : Inv X pins σ1 (upd H1 a (.ext (ExO a c d))) { s1 with heap := h4 } := inv_tell J4 ⟨o4, vs4, e4, z4, d4⟩ na nL ?n0 ?nc ?np
   case n0 =>
    cases q : X.s_0.heap.get? a with
    | none => rfl
    | some o =>
     obtain ⟨o2, q2⟩ := J.base.there a o q (by rw [hx]; simp)
     rw [nI] at q2; cases q2
   case nc =>
    intro y b q z
    subst z
    obtain ⟨v, o, k1, k2⟩ := J.cell y b q
    rw [nI] at k1; cases k1
   case np =>
    intro p hp z
    have q := (J.pin p hp).1
    rw [z, nI] at q; cases q
   refine store_ok (X := X.suite a (X.pn ++ pins)) (v := .ref a) (qbl T4 a) hN hi (.inl hl) rfl (fun s5 S5 => ?_) (.inr hl)
   refine wpAny_mono ((hu a (X.pn ++ pins)).run [] s5 _ _ _ S5 (yes rfl a na)) (fun f s6 hsp => ?_) (fun _ _ z => z.elim)
   have fin : ∀ {σ6 : L2.St} {H6 : Hp} {Q : Shared → Prop}, Inv (X.suite a (X.pn ++ pins)) [] σ6 H6 s6 → (∀ s7, Inv X pins (σ6.set i none) H6 s7 → Q s7) →
     wpAny (model X.prog X.w) X.A (do bindName X.env n .none; unbindBehindTheSuite X.env n pos2) (fun _ s7 => Q s7) X.xe s6 := fun {σ6 H6 Q} S6 hq => gone_ok (zbq S6 ok) hN hi hl hq
   cases f with
   | next =>
    obtain ⟨σ6, H6, S6, q6⟩ := hsp
    exact fin S6 fun s7 J7 => ⟨_, _, J7, q6⟩
   | brk =>
    obtain ⟨σ6, H6, S6, q6⟩ := hsp
    exact fin S6 fun s7 J7 => ⟨_, _, J7, q6⟩
   | cont =>
    obtain ⟨σ6, H6, S6, q6⟩ := hsp
    exact fin S6 fun s7 J7 => ⟨_, _, J7, q6⟩
   | ret v6 =>
    obtain ⟨w6, σ6, H6, S6, r6, q6⟩ := hsp
    exact fin S6 fun s7 J7 => ⟨_, _, _, J7, r6, q6⟩
  | false =>
   refine wpAny_handleBy_nil ?_
   obtain ⟨_, _, _, o, vs, T, oT, tv, he, hz, hd, h1, _⟩ := id fl3
   unfold PySem.passOn
   refine wpAny_bind (wpAny_field he hd h1 ?_)
   rw [if_neg (show ¬ ((Value.ref T == Value.none) = true) by simp)]
   have on : wpAny (model X.prog X.w) X.A (setFlight (.ref a) X.env.frame) (fun _ s4 => wpAny (model X.prog X.w) X.A (throw (.ref a) : Sem Flow) (SP X pins D) X.xe s4) X.xe { s1 with heap := h3 } := by
    rw [hf]
    exact HandSPX.setFlight_upZ fl3 fun h4 fl4 up4 => wpAny_throw (tk _ _ ⟨a, B, sI, pins, σ1, H1, .ref c, d, rfl, J, nb, (up.trans up3).trans up4, .inr (.inr (by rw [hs]; exact fl4)), na, os, ag, no rfl⟩)
   first
    | exact wpAny_bind (wpAny_pure (wpAny_bind on))
    | exact wpAny_bind on
 refine wpAny_mono ((hb (wHold X.K u i ts Wo D) (X.pn ++ pins) xe1 caught PassesOwn.looking).run [] s σ H D (I.toTry _) h) (fun f s1 hsp => ?_) (fun _ _ z => z)
 cases f with
 | next =>
  obtain ⟨σ1, H1, J1, q⟩ := hsp
  exact wpAny_execs_nil ⟨σ1, H1, J1.ofTry ok, q⟩
 | brk =>
  obtain ⟨σ1, H1, J1, q⟩ := hsp
  exact ⟨σ1, H1, J1.ofTry ok, q⟩
 | cont =>
  obtain ⟨σ1, H1, J1, q⟩ := hsp
  exact ⟨σ1, H1, J1.ofTry ok, q⟩
 | ret v =>
  obtain ⟨w1, σ1, H1, J1, r, q⟩ := hsp
  exact ⟨w1, σ1, H1, J1.ofTry ok, r, q⟩
end PL
namespace PL
open PySem L2
section
variable {K : PySem.W.Frag} {W : WX} {fx : List Nat}
theorem no_post {σ : Sl} {C H : Hp} {ρ : En} {i : Nat} (e : EnvOk K C H σ ρ) (hi : i ∉ fx) (hl : i < ρ.length) : PostS K fx σ C H ρ (σ.set i none) C H (ρ.set i .no) := by
 have lσ : i < σ.length := by rw [e.len]; exact hl
 refine ⟨Step.refl e.ext, fun a ⟨j, m, h1, h2⟩ => .inl ?_, ⟨by rw [List.length_set, List.length_set]; exact e.len, e.ext, fun j c q => ?_, fun j k m n a h1 h2 h3 h4 => ?_, e.tab⟩, fun j hj => ?_, by rw [List.length_set]⟩
 ·by_cases hj : i = j
  ·subst hj; rw [List.getElem?_set_self hl] at h1; cases h1
  ·rw [List.getElem?_set_ne hj] at h1 h2; exact ⟨j, m, h1, h2⟩
 ·by_cases hj : i = j
  ·subst hj
   rw [List.getElem?_set_self hl] at q; cases q
   exact ⟨none, List.getElem?_set_self lσ, trivial⟩
  ·rw [List.getElem?_set_ne hj] at q ⊢
   exact e.cell j c q
 ·by_cases hj : i = j
  ·subst hj; rw [List.getElem?_set_self hl] at h1; cases h1
  ·by_cases hk : i = k
   ·subst hk; rw [List.getElem?_set_self hl] at h2; cases h2
   ·rw [List.getElem?_set_ne hj] at h1 h3
    rw [List.getElem?_set_ne hk] at h2 h4
    exact e.inj j k m n a h1 h2 h3 h4
 ·exact List.getElem?_set_ne (fun z => hi (by rw [z]; exact hj))
def excD (e : Exn) : D := .exc e.c e.fs.isSome (e.fs.getD [])
def sTry (K : PySem.W.Frag) (u : Addr) (xs : List Addr) (i j : Nat) (g : PL.P Fl) : PL.P Fl := fun ρ => match g ρ with
 | some (.ex e r) => (match PySem.W.exmOne K (.ref e.c) (.ref u) with
  | some true => if xs.contains e.c = true ∧ i < r.length ∧ j < r.length then some (.ok .next (((r.set i (.dat (excD e))).set j (.dat (excD e))).set i .no)) else none
  | some false => some (.ex e r)
  | none => none)
 | o => o
theorem ss_try {u : Addr} {xs : List Addr} {i j : Nat} {g : PL.P Fl} {tb : WX → TS} (hx : ∀ c, xs.contains c = true → ExcC K c) (hi : i ∉ fx) (hj : j ∉ fx) (hg : ∀ W', SdS K W' fx (tb W') g) :
  SdS K W fx (fun D σ H => tb (wHold K (.ref u) i (tAsg (tVar i) (gName j)) W D) D σ H) (sTry K u xs i j g) := by
 intro σ C H ρ out D e ho m
 unfold sTry at ho
 cases q : g ρ with
 | none => rw [q] at ho; cases ho
 | some o =>
  rw [q] at ho
  cases o with
  | ok a r =>
   cases ho
   refine hg _ σ C H ρ _ D e q ?_
   cases a <;> exact m
  | ex x r =>
   refine hg _ σ C H ρ _ D e q fun d σ1 C1 H1 p k => ?_
   dsimp only at ho
   cases q2 : PySem.W.exmOne K (.ref x.c) (.ref u) with
   | none => rw [q2] at ho; cases ho
   | some b =>
    rw [q2] at ho
    cases b with
    | false =>
     cases ho
     exact ⟨x.c, false, rfl, q2, (fun z => by cases z), fun _ => m d σ1 C1 H1 p k⟩
    | true =>
     obtain ⟨⟨c1, c2, c3⟩, rfl⟩ := vc ho
     refine ⟨x.c, true, rfl, q2, fun _ a na => ?_, fun z => by cases z⟩
     have lσ : i < σ1.length := by rw [p.env.len]; exact c2
     have st : Step C1 H1 (upd C1 a (.ext (ExO a x.c d))) (upd H1 a (.ext (ExO a x.c d))) (fun _ => False) := Step.newD p.env.ext na
     have P1 : PostS K fx σ1 C1 H1 r σ1 _ _ r := PostS.of (Post.of_step p.env st)
     have is : Is K (upd C1 a (.ext (ExO a x.c d))) (excD x) (.ref a) := by
      refine is_exc_iff.mpr ⟨hx _ c1, a, d, ?_⟩
      unfold ExnOk at k
      cases q3 : x.fs with
      | none =>
       rw [q3] at k
       exact ⟨[], rfl, upd_same, .inl ⟨rfl, k⟩, jaz⟩
      | some fs =>
       rw [q3] at k
       obtain ⟨b, gs, rfl, k1, k2⟩ := k
       refine ⟨gs, rfl, upd_same, .inr ⟨b, rfl, rfl, ?_⟩, Isf.mono st.core fs gs k2⟩
       exact st.core.1 _ _ k1 nt_xd
     have P2 := jas (fx := fx) (i := i) P1.env hi c2 is
     have P3 := jas (fx := fx) (i := j) P2.env hj (by rw [List.length_set]; exact c3) is
     have P4 := no_post (fx := fx) (i := i) P3.env hi (by rw [List.length_set, List.length_set]; exact c2)
     exact ⟨.ref a, List.getElem?_set_self lσ, m _ _ _ (p.trans (P1.trans (P2.trans (P3.trans P4))))⟩
def sRaise (c : Addr) : PL.P Fl := fun ρ => some (.ex ⟨c, none⟩ ρ)
end
section
variable {ι : Type} {X : ι → Cx} {P : Program} {w : World} {K : PySem.W.Frag} {mg : Str → Option Value} {base : Heap} {k : Nat} {W : WX} {N : List Str} {sc : Scope} {fx : List Nat}
abbrev TrIx (X : ι → Cx) (W' : WX) : Type := { z : ι × List (Addr × Obj) × (Value → Shared → Prop) // Takes ((X z.1).tr z.2.1 z.2.2) W' ∧ PassesOwn (model (X z.1).prog (X z.1).w) (X z.1).A (X z.1).env z.2.2 }
abbrev trX (X : ι → Cx) (W' : WX) : TrIx X W' → Cx := fun z => (X z.1.1).tr z.1.2.1 z.1.2.2
theorem CtxOk.tr (B : CtxOk X P w K mg base k W N sc) (W' : WX) : CtxOk (trX X W') P w K mg base k W' N sc :=
 ⟨fun z => B.pP z.1.1, fun z => B.pw z.1.1, fun z => B.pK z.1.1, fun z => B.pm z.1.1, fun z => B.pb z.1.1, fun z => B.room z.1.1, fun z => z.2.1, fun z => B.calm z.1.1, fun z => z.2.2, fun z => B.nN z.1.1, fun z => B.ns z.1.1, B.nd'⟩
theorem bs_try {x n y : Str} {u : Addr} {xs : List Addr} {body : List Stmt} {g : PL.P Fl} {np yp np2 ap pos pos2 : Pos} (B : CtxOk X P w K mg base k W N sc) (hx : ∀ c, xs.contains c = true → ExcC K c) (hm : mg x = some (.ref u)) (i j : Nat)
  (hb : ∀ W', BSs (trX X W') K W' fx body g) (hi : N[i]? = some n := by rfl) (hj : N[j]? = some y := by rfl) (hg : sc.names.lookup x = some .globalImplicit := by rfl) (hd : (x == ("__debug__" : Str)) = false := by decide)
  (hk : ∀ z, (X z).env.kindOf n = some .local := by intro _; rfl) (vn : Vis sc n := by first | exact Or.inl rfl | exact Or.inr (Or.inl rfl) | exact Or.inr (Or.inr rfl)) (ly : Loc sc y := by first | exact .inl rfl | exact .inr rfl)
  (hs : ∀ z, swapsWith (.Name n np2) (some (.Name y yp)) ap.line (X z).env = pure false := by intro _; rfl) (hf : ∀ z, (X z).fn y = true ∨ (X z).env.scope.names.lookup y = some .local := by intro _; first | exact .inl rfl | exact .inr rfl)
  (hst : ∀ z, (X z).stack = (X z).env :: (X z).outer := by intro _; rfl) (hfr : ∀ z, (X z).env.frame = some (X z).env.locals := by intro _; rfl) (hex : ∀ z, (X z).ex = [] := by intro _; rfl) (hni : i ∉ fx := by decide) (hnj : j ∉ fx := by decide)
  (hn1 : (n == ("__debug__" : Str)) = false := by decide) (hn2 : (n == ("__classdict__" : Str)) = false := by decide) :
  BS X K W fx (.Try body [.ExceptHandler (some (.Name x np)) (some n) [.Assign [.Name y yp] (.Name n np2) ap] pos2] [] [] pos) (sTry K u xs i j g) := by
 have h1 : ∀ W', ∃ t, (∀ z, PSs (trX X W' z) body t) ∧ SdS K W' fx t g := hb
 obtain ⟨tb, h2⟩ := Classical.axiomOfChoice h1
 refine ⟨_, fun z => ?_, ss_try (W := W) hx hni hnj fun W' => (h2 W').2⟩
 have hK := B.pK z
 have := wbo (X := X z) (x := x) (n := n) (u := .ref u) (i := i) (tb := tb) (ts := tAsg (tVar i) (gName j)) (Wo := W) (b1 := .Assign [.Name y yp] (.Name n np2) ap) (rest := []) (body := body) (np := np) (pos := pos) (pos2 := pos2) (hst z) (hfr z) (hex z) (B.nd z) (B.at_ hi z) (hk z) ⟨B.gl hg z, hd, .inl (by rw [B.pm z]; exact hm)⟩ (B.tk z)
  (fun W' pn xe tk ps => (h2 W').1 ⟨(z, pn, xe), tk, ps⟩)
  (fun a pn => pss_one (ps_set (X := (X z).suite a pn) (B.nd z) (B.at_ hj z) (B.lo ly z) (pe_var (B.at_ hi z) (B.vis vn z) hn1 hn2) (hs z) (hf z)))
 rw [hK] at this
 exact this
end
section
variable {K : PySem.W.Frag} {QF : Fl → En → Prop} {E : Exn → En → Prop} {ρ : En}
theorem wp_raise {c : Addr} : wp (sRaise c) QF E ρ ↔ E ⟨c, none⟩ ρ := Iff.rfl
def tryQ (K : PySem.W.Frag) (u : Addr) (xs : List Addr) (i j : Nat) (QF : Fl → En → Prop) (E : Exn → En → Prop) (e : Exn) (r : En) : Prop := match PySem.W.exmOne K (.ref e.c) (.ref u) with
 | some true => (xs.contains e.c = true ∧ i < r.length ∧ j < r.length) ∧ QF .next (((r.set i (.dat (excD e))).set j (.dat (excD e))).set i .no)
 | some false => E e r
 | none => False
theorem wp_try {u : Addr} {xs : List Addr} {i j : Nat} {g : PL.P Fl} : wp (sTry K u xs i j g) QF E ρ ↔ wp g QF (tryQ K u xs i j QF E) ρ := by
 unfold wp sTry tryQ
 cases g ρ with
 | none => exact Iff.rfl
 | some o =>
  cases o with
  | ok a r => exact Iff.rfl
  | ex e r =>
   dsimp only
   cases q : PySem.W.exmOne K (.ref e.c) (.ref u) with
   | none => exact Iff.rfl
   | some b =>
    cases b with
    | false => exact Iff.rfl
    | true =>
     dsimp only
     by_cases h : xs.contains e.c = true ∧ i < r.length ∧ j < r.length
     ·rw [if_pos h]; exact ⟨fun z => ⟨h, z⟩, fun z => z.2⟩
     ·rw [if_neg h]; exact ⟨fun z => z.elim, fun z => h z.1⟩
theorem tryQ_hit {u c : Addr} {xs : List Addr} {i j : Nat} {fs : Option (List (Str × D))} (h : PySem.W.exmOne K (.ref c) (.ref u) = some true) (hx : xs.contains c = true) : tryQ K u xs i j QF E ⟨c, fs⟩ ρ ↔ (i < ρ.length ∧ j < ρ.length) ∧ QF .next (((ρ.set i (.dat (.exc c fs.isSome (fs.getD [])))).set j (.dat (.exc c fs.isSome (fs.getD [])))).set i .no) := by
 unfold tryQ
 rw [h]
 exact ⟨fun z => ⟨z.1.2, z.2⟩, fun z => ⟨⟨hx, z.1⟩, z.2⟩⟩
theorem none_exc {c : Addr} {b : Bool} {fs : List (Str × D)} : isNone (.exc c b fs) = false := rfl
theorem isi_exc {cs : List Addr} {c b : Addr} {t : Bool} {fs : List (Str × D)} {r : Bool} (k : PySem.W.kitOne K (.ref c) (.ref b) = some r) : isiD K cs [.exc c t fs, .s (.ref b)] = some (rvB r) := by
 unfold isiD isiB
 simp only [tyD, clsD, ja3, if_true, k]
end
end PL
namespace PL
open PySem L2
section
variable {K : PySem.W.Frag} {W : WX}
def powD : D → D → Option Rv
 | .s (.int i), .s (.int j) => if 0 ≤ j ∧ j ≤ 1000000 ∧ i.natAbs < 2 ^ 64 then some (rvI (i ^ j.toNat)) else none
 | _, _ => none
def absD : List D → Option Rv
 | [.s (.int i)] => some (rvI (if i < 0 then -i else i))
 | _ => none
theorem ok_abs : RCOk K (fun xs H Q => ∃ i, xs = [.int i] ∧ Q (.int (if i < 0 then -i else i)) H) absD := by
 intro C H e ds vs rv Q h hs g
 unfold absD at h
 split at h
 ·obtain ⟨v, r, rfl, h1, h2⟩ := pks1 hs
  cases pks0 h2
  cases pk_s.mp h1
  cases h
  exact ⟨_, rfl, g.d e⟩
 ·cases h
def fDic0 : PL.P Rv := fC (.dic [])
end
section
variable {ι : Type} {X : ι → Cx} {P : Program} {w : World} {K : PySem.W.Frag} {mg : Str → Option Value} {base : Heap} {k : Nat} {W : WX} {N : List Str} {sc : Scope} {a b : Expr} {fa fb : PL.P Rv} {pos : Pos}
theorem b_abs (B : CtxOk X P w K mg base k W N sc) (hm : mg "abs" = none) : CFn X K mg "abs" absD := .fn "abs" _ _ hm (by decide +kernel) (by decide) (by decide) (fun i => call_abs) ok_abs
end
section
variable {K : PySem.W.Frag} {cs : List Addr} {kvs : List (Key × D)}
theorem none_dic : isNone (.dic kvs) = false := rfl
end
end PL
namespace PL
open PySem L2
theorem jbm {α : Type} {xs : List α} {i : Nat} (h : i ≤ xs.length) : cutG xs none (some (i : Int)) = xs.take i := by
 unfold cutG
 rw [HT.sIx_nat, HT.sIx_none, List.drop_zero, Nat.sub_zero, Nat.min_eq_left h]
theorem wbd : ((("Table.__init__" : Str) ++ (".<locals>." : Str)) ++ ("<lambda>" : Str)) = lamQ := by decide +kernel
end PL
namespace PL
open PySem L2
def jbj (i : Nat) (fi fv : PL.P Rv) : PL.P Fl := (xt fv).bind fun d => ownL i fun _ => fi.bind fun rk => fun ρ => match peek ρ rk with
 | some (.s (.int j)) => (ownL i fun ds => if 0 ≤ j ∧ j.toNat < ds.length ∧ ds.length < 4611686018427387904 then setL i (ds.set j.toNat d) .next else PL.P.fail) ρ
 | _ => none
theorem ss_setX {K : PySem.W.Frag} {W : WX} {fx : List Nat} {i : Nat} {te ti : TE} {fi fv : PL.P Rv} (hv : Sd K W (VRel K) te fv) (hi : Sd K W (VRel K) ti fi) : SdS K W fx (tAsg te (gSub (tVar i) ti rSetL)) (jbj i fi fv) := by
 intro σ C H ρ out D e ho m
 refine xp (k := fun d => ownL i fun _ => fi.bind fun rk => fun ρ => match peek ρ rk with
  | some (.s (.int j)) => (ownL i fun ds => if 0 ≤ j ∧ j.toNat < ds.length ∧ ds.length < 4611686018427387904 then setL i (ds.set j.toNat d) .next else PL.P.fail) ρ
  | _ => none) (zw hv) e ho m fun d ρ0 v C0 H0 p0 kd z0 => ?_
 show ∃ o, σ[i]? = some (some o) ∧ ti σ H0 fun y H2 => rSetL o y v H2 fun H3 => D.nx σ H3
 unfold ownL at z0
 cases q0 : ρ0[i]? with
 | none => rw [q0] at z0; cases z0
 | some c =>
  rw [q0] at z0
  cases c with
  | no => cases z0
  | dat d => cases z0
  | own mm =>
   cases mm with
   | dk kvs => cases z0
   | dt kvs => cases z0
   | dn _ _ _ => cases z0
   | ob c fs => cases z0
   | lst ds0 =>
    obtain ⟨a, o, h1, h2, h3, xs0, rfl, h4⟩ := xaf p0.env q0
    refine ⟨.ref a, h1, xp (Q := fun y H2 => rSetL (.ref a) y v H2 fun H3 => D.nx σ H3) hi p0.env z0 (Met.later (PostS.of p0) m) fun rk ρ1 y C1 H1 p k z => ?_⟩
    cases q1 : peek ρ1 rk with
    | none => rw [q1] at z; cases z
    | some dk =>
     rw [q1] at z
     cases dk with
     | s x =>
      cases x with
      | int j =>
       dsimp only at z
       cases q2 : ρ1[i]? with
       | none => rw [q2] at z; cases z
       | some c =>
        rw [q2] at z
        cases c with
        | no => cases z
        | dat d => cases z
        | own m2 =>
         cases m2 with
         | dk kvs => cases z
         | dt kvs => cases z
         | dn _ _ _ => cases z
         | ob c fs => cases z
         | lst ds =>
          obtain ⟨b, o, k1, k2, k3, xs, rfl, k4⟩ := xaf p.env q2
          rw [h1] at k1; cases k1
          cases pk_s.mp (wg p.env k q1)
          by_cases hz : 0 ≤ j ∧ j.toNat < ds.length ∧ ds.length < 4611686018427387904
          ·simp only [if_pos hz] at z
           cases z
           obtain ⟨z1, z2, z3⟩ := hz
           have p2 := zac (m' := .lst (ds.set j.toNat d)) p.env q2 h1 ⟨_, rfl, k4.set j.toNat (Is.mono p.step.core d v kd)⟩
           refine ⟨a, xs, j, j.toNat, rfl, rfl, k3, ?_, ?_⟩
           ·unfold ixN
            rw [k4.length, if_pos z1, if_pos (by omega)]
           ·have mm := Met.later (PostS.of p0) m
            exact mm σ _ _ ((PostS.of p).trans (PostS.of p2))
          ·simp only [if_neg hz] at z
           cases z
      | _ => cases z
     | _ => cases z
section
variable {ι : Type} {X : ι → Cx} {P : Program} {w : World} {K : PySem.W.Frag} {mg : Str → Option Value} {base : Heap} {k : Nat} {W : WX} {N : List Str} {sc : Scope} {fx : List Nat} {i e : Expr} {fi fv : PL.P Rv} {x : Str} {p tp pos : Pos}
theorem ybg (B : CtxOk X P w K mg base k W N sc) (n : Nat) (hi : BE X K W i fi) (he : BE X K W e fv) (hN : N[n]? = some x := by rfl) (hv : Vis sc x := by first | exact Or.inl rfl | exact Or.inr (Or.inl rfl) | exact Or.inr (Or.inr rfl)) (hd : (x == ("__debug__" : Str)) = false := by decide)
  (hcd : (x == ("__classdict__" : Str)) = false := by decide)
  (ha : ∀ z, ∀ v, assign (.Subscript (.Name x p) i tp) (X z).env v = (do
   let ov ← holding [v] (eval (.Name x p) (X z).env)
   let iv ← holding [v, ov] (eval i (X z).env)
   standAt tp
   holding [v, ov, iv] (setItem ov iv v)
   release [v, ov, iv] []) := by intro _ _; rfl)
  (hs : ∀ z, swapsWithSole [.Subscript (.Name x p) i tp] e pos.line (X z).env = pure false := by intro _; rfl) (hw : ∀ z, swappedStores [.Subscript (.Name x p) i tp] e (X z).env = pure none := by intro _; rfl)
  (h1 : ∀ z, (assignEach [.Subscript (.Name x p) i tp] (X z).env).map (·.2) = [assign (.Subscript (.Name x p) i tp) (X z).env] := by intro _; rfl) :
  BS X K W fx (.Assign [.Subscript (.Name x p) i tp] e pos) (jbj n fi fv) := by
 obtain ⟨ti, pi, si⟩ := hi
 obtain ⟨te, pe, se⟩ := he
 exact ⟨_, fun z => ps_asg (pe z) (pg_sub (pe_var (B.at_ hN z) (B.vis hv z) hd hcd) (pi z) set_list (ha z)) (hs z) (hw z) (h1 z), ss_setX se si⟩
end
section
variable {QF : Fl → En → Prop} {E : Exn → En → Prop} {ρ : En}
theorem wp_setX {i : Nat} {fi fv : PL.P Rv} : wp (jbj i fi fv) QF E ρ ↔ wp fv (fun v r => wpG r v fun d r2 => atS r2 i (yay fun _ => wp fi (fun rk r3 => wpO (peek r3 rk) fun dk => isZ dk fun j => atS r3 i (yay fun ds => (0 ≤ j ∧ j.toNat < ds.length ∧ ds.length < 4611686018427387904) ∧ QF .next (r3.set i (.own (.lst (ds.set j.toNat d)))))) E r2)) E ρ := by
 unfold jbj
 simp only [wp_bind, wp_grab, vak]
 refine qe fun v r => zbi fun d r2 => zr fun c => yl fun _ => qe fun rk r3 => ?_
 show wp (fun ρ => match peek ρ rk with
  | some (.s (.int j)) => (ownL i fun ds => if 0 ≤ j ∧ j.toNat < ds.length ∧ ds.length < 4611686018427387904 then setL i (ds.set j.toNat d) .next else PL.P.fail) ρ
  | _ => none) QF E r3 ↔ _
 cases q : peek r3 rk with
 | none => unfold wp wpO; simp only [q]
 | some dk =>
  cases dk with
  | s x =>
   cases x with
   | int j =>
    have e1 : wp (fun ρ => match peek ρ rk with
     | some (.s (.int j)) => (ownL i fun ds => if 0 ≤ j ∧ j.toNat < ds.length ∧ ds.length < 4611686018427387904 then setL i (ds.set j.toNat d) .next else PL.P.fail) ρ
     | _ => none) QF E r3 ↔ wp (ownL i fun ds => if 0 ≤ j ∧ j.toNat < ds.length ∧ ds.length < 4611686018427387904 then setL i (ds.set j.toNat d) .next else PL.P.fail) QF E r3 := by unfold wp; simp only [q]
    refine e1.trans ?_
    rw [vak]
    show _ ↔ atS r3 i _
    refine zr fun c => yl fun ds => ?_
    by_cases h : 0 ≤ j ∧ j.toNat < ds.length ∧ ds.length < 4611686018427387904
    ·rw [if_pos h]; exact ⟨fun q => ⟨h, q⟩, fun q => q.2⟩
    ·rw [if_neg h]; exact ⟨fun q => q.elim, fun q => h q.1⟩
   | _ => unfold wp wpO; simp only [q, isZ]
  | _ => unfold wp wpO; simp only [q, isZ]
end
end PL
namespace PL
open PySem L2
section
variable {κ : Type} [DecidableEq κ] {K : PySem.W.Frag} {C H : Hp}
def getK (kvs : List (κ × D)) (k : κ) : Option D := (kvs.find? fun kv => decide (kv.1 = k)).map (·.2)
def setK (kvs : List (κ × D)) (k : κ) (v : D) : List (κ × D) :=
 if (kvs.any fun kv => decide (kv.1 = k)) = true then kvs.map (fun kv => if kv.1 = k then (kv.1, v) else kv) else kvs ++ [(k, v)]
theorem Iskv.length : ∀ {ds : List (κ × D)} {xs : List (κ × V)}, Iskv K C ds xs → xs.length = ds.length
 | [], xs, h => by cases (show xs = [] from h); rfl
 | (n, d) :: ds, xs, h => by
  obtain ⟨x, r, rfl, _, h3⟩ := h
  rw [List.length_cons, List.length_cons, Iskv.length h3]
theorem Iskv.any (k : κ) : ∀ {ds : List (κ × D)} {xs : List (κ × V)}, Iskv K C ds xs → (ds.any fun kv => decide (kv.1 = k)) = (xs.any fun kv => decide (kv.1 = k))
 | [], xs, h => by cases (show xs = [] from h); rfl
 | (n, d) :: ds, xs, h => by
  obtain ⟨x, r, rfl, _, h3⟩ := h
  simp only [List.any_cons, Iskv.any k h3]
theorem Iskv.get (k : κ) : ∀ {ds : List (κ × D)} {xs : List (κ × V)}, Iskv K C ds xs → (getK ds k = none ∧ valV xs k = none) ∨ ∃ d x, getK ds k = some d ∧ valV xs k = some x ∧ Is K C d x
 | [], xs, h => by cases (show xs = [] from h); exact .inl ⟨rfl, rfl⟩
 | (n, d) :: ds, xs, h => by
  obtain ⟨x, r, rfl, h2, h3⟩ := h
  unfold getK valV
  by_cases e : n = k
  ·exact .inr ⟨d, x, by simp [List.find?_cons, e], by simp [List.find?_cons, e], h2⟩
  ·have := Iskv.get k h3
   unfold getK valV at this
   simpa [List.find?_cons, e] using this
theorem Iskv.at : ∀ {ds : List (κ × D)} {xs : List (κ × V)} {i : Nat} {kd : κ × D}, Iskv K C ds xs → ds[i]? = some kd → ∃ x, xs[i]? = some (kd.1, x) ∧ Is K C kd.2 x
 | [], xs, i, kd, h, e => by simp at e
 | (n, d) :: ds, xs, 0, kd, h, e => by
  obtain ⟨x, r, rfl, h2, _⟩ := h
  simp at e; subst e
  exact ⟨x, rfl, h2⟩
 | (n, d) :: ds, xs, i + 1, kd, h, e => by
  obtain ⟨x, r, rfl, _, h3⟩ := h
  obtain ⟨y, h4, h5⟩ := Iskv.at (i := i) (kd := kd) h3 (by simpa using e)
  exact ⟨y, by simpa using h4, h5⟩
theorem Iskv.upd {k : κ} {d : D} {x : V} (hd : Is K C d x) : ∀ {ds : List (κ × D)} {xs : List (κ × V)}, Iskv K C ds xs → Iskv K C (ds.map fun kv => if kv.1 = k then (kv.1, d) else kv) (xs.map fun kv => if kv.1 = k then (kv.1, x) else kv)
 | [], xs, h => by cases (show xs = [] from h); rfl
 | (n, d0) :: ds, xs, h => by
  obtain ⟨y, r, rfl, h2, h3⟩ := h
  by_cases e : n = k
  ·simp only [List.map_cons, if_pos e]; exact ⟨x, _, rfl, hd, Iskv.upd hd h3⟩
  ·simp only [List.map_cons, if_neg e]; exact ⟨y, _, rfl, h2, Iskv.upd hd h3⟩
theorem Iskv.snoc {k : κ} {d : D} {x : V} (hd : Is K C d x) : ∀ {ds : List (κ × D)} {xs : List (κ × V)}, Iskv K C ds xs → Iskv K C (ds ++ [(k, d)]) (xs ++ [(k, x)])
 | [], xs, h => by cases (show xs = [] from h); exact ⟨x, [], rfl, hd, rfl⟩
 | (n, d0) :: ds, xs, h => by
  obtain ⟨y, r, rfl, h2, h3⟩ := h
  exact ⟨y, _, rfl, h2, Iskv.snoc hd h3⟩
theorem Iskv.put {k : κ} {d : D} {x : V} {ds : List (κ × D)} {xs : List (κ × V)} (h : Iskv K C ds xs) (hd : Is K C d x) : Iskv K C (setK ds k d) (putK xs k x) := by
 unfold setK putK
 rw [← Iskv.any k h]
 by_cases q : (ds.any fun kv => decide (kv.1 = k)) = true
 ·rw [if_pos q, if_pos q]; exact Iskv.upd hd h
 ·rw [if_neg q, if_neg q]; exact Iskv.snoc hd h
end
abbrev DK := Sum Key (List Key)
def keyD : D → Option Key
 | .s (.int i) => some (.inl i)
 | .s (.str x) => some (.inr x)
 | _ => none
def keysD : List D → Option (List Key)
 | [] => some []
 | d :: ds => match keyD d, keysD ds with
  | some k, some ks => some (k :: ks)
  | _, _ => none
section
variable {K : PySem.W.Frag} {C H : Hp} {W : WX}
def KyRel (K : PySem.W.Frag) (_ : Hp) : Rel V DK := fun C _ _ _ v k => match k with
 | .inl k => v = kV k
 | .inr ks => ∃ b, v = .ref b ∧ C b = some (.tup (ks.map kV))
theorem KyRel.mono {H0 : Hp} {C C' H' : Hp} {σ : Sl} {ρ ρ' : En} {v : V} {k : DK} (h : KyRel K H0 C H σ ρ v k) (e : Ex C C') : KyRel K H0 C' H' σ ρ' v k := by
 cases k with
 | inl k => exact h
 | inr ks => obtain ⟨b, h1, h2⟩ := h; exact ⟨b, h1, e.1 _ _ h2 nt_tup⟩
end
abbrev DV := Sum (List (Key × D)) (List (List Key × D))
def dvC : Cell → Option DV
 | .own (.dk kvs) => some (.inl kvs)
 | .own (.dt kvs) => some (.inr kvs)
 | .dat (.dic kvs) => some (.inl kvs)
 | _ => none
def dv (ρ : En) : Rv → Option DV
 | .dat (.dic kvs) => some (.inl kvs)
 | .new (.dk kvs) => some (.inl kvs)
 | .new (.dt kvs) => some (.inr kvs)
 | .bor i => match ρ[i]? with
  | some c => dvC c
  | none => none
 | _ => none
section
variable {K : PySem.W.Frag} {W : WX} {σ : Sl} {C H H0 : Hp} {ρ : En}
def dGet : DV → DK → Option (Option D)
 | .inl kvs, .inl k => some (getK kvs k)
 | .inr kvs, .inr k => some (getK kvs k)
 | _, _ => none
end
end PL
namespace PL
open PySem L2
end PL
namespace PL
open PySem L2
section
variable {K : PySem.W.Frag} {C : Hp}
def pNil : PL.P (List (Key × D)) := P.ret []
variable {W : WX}
end
end PL
namespace PL
open PySem L2 PySem.Spec PyProof.Rows
def fDNewK : PL.P Rv := fun ρ => some (.ok (.new (.dk [])) ρ)
def fDNewT : PL.P Rv := fun ρ => some (.ok (.new (.dt [])) ρ)
section
variable {α : Type} {Q : α → En → Prop} {QR : Rv → En → Prop} {QK : DK → En → Prop} {QF : Fl → En → Prop} {QP : List (Key × D) → En → Prop} {QDs : List D → En → Prop} {QA : List Arg × M → En → Prop} {E : Exn → En → Prop} {ρ : En}
def isKy (d : D) (Q : Key → Prop) : Prop := match keyD d with
 | some k => Q k
 | none => False
theorem vau {i : Int} {Q : Key → Prop} : isKy (.s (.int i)) Q ↔ Q (.inl i) := Iff.rfl
theorem kau {x : Str} {Q : Key → Prop} : isKy (.s (.str x)) Q ↔ Q (.inr x) := Iff.rfl
theorem kag : keysD [] = some [] := rfl
def dvQ (Q : DV → Prop) : Cell → Prop
 | .own (.dk kvs) => Q (.inl kvs)
 | .own (.dt kvs) => Q (.inr kvs)
 | .dat (.dic kvs) => Q (.inl kvs)
 | _ => False
theorem dvQ_dk {kvs} {Q : DV → Prop} : dvQ Q (.own (.dk kvs)) ↔ Q (.inl kvs) := Iff.rfl
theorem dvQ_dt {kvs} {Q : DV → Prop} : dvQ Q (.own (.dt kvs)) ↔ Q (.inr kvs) := Iff.rfl
theorem qbg {kvs} {Q : DV → Prop} : dvQ Q (.dat (.dic kvs)) ↔ Q (.inl kvs) := Iff.rfl
theorem dv_dic {kvs} : dv ρ (.dat (.dic kvs)) = some (.inl kvs) := rfl
theorem wbf {kvs} : dv ρ (.new (.dk kvs)) = some (.inl kvs) := rfl
theorem ybf {kvs} : dv ρ (.new (.dt kvs)) = some (.inr kvs) := rfl
theorem dGet_k {kvs : List (Key × D)} {k : Key} : dGet (.inl kvs) (.inl k) = some (getK kvs k) := rfl
theorem dGet_t {kvs : List (List Key × D)} {k : List Key} : dGet (.inr kvs) (.inr k) = some (getK kvs k) := rfl
theorem qar : wp fDNewK QR E ρ ↔ QR (.new (.dk [])) ρ := Iff.rfl
theorem waq : wp fDNewT QR E ρ ↔ QR (.new (.dt [])) ρ := Iff.rfl
def thereQ (o : Option D) (Q : D → Prop) : Prop := match o with
 | some d => Q d
 | none => False
theorem v5 {d : D} {Q : D → Prop} : thereQ (some d) Q ↔ Q d := Iff.rfl
def putQ (k : DK) (Q : M → Prop) (d : D) : Cell → Prop
 | .own (.dk kvs) => match k with
  | .inl k => kvs.length < sizeLine ∧ Q (.dk (setK kvs k d))
  | .inr _ => False
 | .own (.dt kvs) => match k with
  | .inr k => kvs.length < sizeLine ∧ Q (.dt (setK kvs k d))
  | .inl _ => False
 | _ => False
theorem putQ_k {kvs : List (Key × D)} {k : Key} {d : D} {Q : M → Prop} : putQ (.inl k) Q d (.own (.dk kvs)) ↔ kvs.length < sizeLine ∧ Q (.dk (setK kvs k d)) := Iff.rfl
theorem putQ_t {kvs : List (List Key × D)} {k : List Key} {d : D} {Q : M → Prop} : putQ (.inr k) Q d (.own (.dt kvs)) ↔ kvs.length < sizeLine ∧ Q (.dt (setK kvs k d)) := Iff.rfl
def pinQ (i : Nat) (QP : List (Key × D) → En → Prop) (ρ : En) : Cell → Prop
 | .own (.dk kvs) => QP kvs (ρ.set i (.dat (.dic kvs)))
 | _ => False
theorem qbc {i : Nat} {kvs : List (Key × D)} : pinQ i QP ρ (.own (.dk kvs)) ↔ QP kvs (ρ.set i (.dat (.dic kvs))) := Iff.rfl
def wpPin (ρ : En) (r : Rv) (QP : List (Key × D) → En → Prop) : Prop := match r with
 | .dat (.dic kvs) => QP kvs ρ
 | .new (.dk kvs) => QP kvs ρ
 | .bor i => atS ρ i (pinQ i QP ρ)
 | _ => False
theorem zad {kvs : List (Key × D)} : wpPin ρ (.dat (.dic kvs)) QP ↔ QP kvs ρ := Iff.rfl
theorem jad {kvs : List (Key × D)} : wpPin ρ (.new (.dk kvs)) QP ↔ QP kvs ρ := Iff.rfl
theorem xad {i : Nat} : wpPin ρ (.bor i) QP ↔ atS ρ i (pinQ i QP ρ) := Iff.rfl
def inlQ (k : DK) (Q : Key → Prop) : Prop := match k with
 | .inl k => Q k
 | .inr _ => False
theorem inlQ_l {k : Key} {Q : Key → Prop} : inlQ (.inl k) Q ↔ Q k := Iff.rfl
theorem va8 : wp pNil QP E ρ ↔ QP [] ρ := Iff.rfl
end
end PL
namespace PL
open PySem L2
theorem ya0 {α : Type} {vs : List Nat} {a : Tgt} {tests : PL.P Bool} {elt : PL.P Rv} {ρ : En} (xs : List α) (f : α → D) (p : α → Bool) (g : α → D) (hl : xs.length ≤ sizeLine)
  (hs : ∀ x ∈ xs, wpO (a (f x) ρ) fun r1 => wp tests (fun b r2 => b = p x ∧ if b = true then wp elt (fun v r3 => wpG r3 v fun y r4 => y = g x ∧ yg r4 vs = ρ) EF r2 else yg r2 vs = ρ) EF r1) :
  jac vs a tests elt (xs.map f) [] ρ = some ((xs.filter p).map g, ρ) := by
 obtain ⟨acc, r, h1, h2, h3, h4⟩ := comp_loop (vs := vs) (a := a) (tests := tests) (elt := elt) (ds := xs.map f) (acc0 := []) (ρ := ρ) (fun i acc r => acc = ((xs.take i).filter p).map g ∧ r = ρ ∧ acc.length ≤ i) ⟨by simp, rfl, by simp⟩
  (fun i d acc r hd ⟨h1, h2, h3⟩ => by
   subst h2
   rw [List.getElem?_map] at hd
   obtain ⟨x, hx, rfl⟩ := Option.map_eq_some_iff.mp hd
   have hm := List.mem_of_getElem? hx
   have hi := (List.getElem?_eq_some_iff.mp hx).1
   have hh := hs x hm
   unfold wpO at hh ⊢
   cases q : a (f x) r with
   | none => rw [q] at hh; exact hh
   | some r1 =>
    rw [q] at hh
    refine wp_mono hh (fun b r2 z => ?_) fun _ _ z => z
    obtain ⟨z1, z2⟩ := z
    have et : xs.take (i + 1) = xs.take i ++ [x] := by rw [List.take_add_one, hx]; rfl
    cases b with
    | false =>
     rw [if_neg Bool.false_ne_true] at z2 ⊢
     refine ⟨?_, z2, by omega⟩
     rw [et, List.filter_append, List.map_append, ← h1]
     simp [← z1]
    | true =>
     rw [if_pos rfl] at z2 ⊢
     refine wp_mono z2 (fun v r3 z => ?_) fun _ _ z => z
     unfold wpG at z ⊢
     cases q3 : grab r3 v with
     | none => rw [q3] at z; exact z
     | some w =>
      rw [q3] at z
      obtain ⟨z3, z4⟩ := z
      refine ⟨by omega, ?_, z4, by rw [List.length_append]; simp; omega⟩
      rw [et, List.filter_append, List.map_append, ← h1, z3]
      simp [← z1])
 rw [h1, h2, h3, List.length_map, List.take_length]
theorem ki {α : Type} {vs : List Nat} {a : Tgt} {elt : PL.P Rv} {ρ : En} (xs : List α) (f g : α → D) (hl : xs.length ≤ sizeLine)
  (hs : ∀ x ∈ xs, wpO (a (f x) ρ) fun r1 => wp elt (fun v r3 => wpG r3 v fun y r4 => y = g x ∧ yg r4 vs = ρ) EF r1) :
  jac vs a fYes elt (xs.map f) [] ρ = some (xs.map g, ρ) := by
 have := ya0 (vs := vs) (a := a) (tests := fYes) (elt := elt) (ρ := ρ) xs f (fun _ => true) g hl fun x hx => by
  have hh := hs x hx
  unfold wpO at hh ⊢
  cases q : a (f x) ρ with
  | none => rw [q] at hh; exact hh
  | some r1 =>
   rw [q] at hh
   show wp (P.ret true) _ EF r1
   rw [xl]
   exact ⟨rfl, by rw [if_pos rfl]; exact hh⟩
 rw [this, List.filter_eq_self.mpr (fun _ _ => rfl)]
theorem kbm : ∀ bs : List Bool, ka3 (bs.map fun b => D.s (.bl b)) = some bs
 | [] => rfl
 | b :: bs => by
  show (match ka3 (bs.map fun b => D.s (.bl b)) with | some bs => some (b :: bs) | none => none) = _
  rw [kbm bs]
theorem any_map {α : Type} (xs : List α) (p : α → Bool) : anyD [.lst (xs.map fun x => D.s (.bl (p x)))] = some (rvB (xs.any p)) := by
 show (match ka3 (xs.map fun x => D.s (.bl (p x))) with | some bs => some (rvB (bs.any id)) | none => none) = _
 rw [show (xs.map fun x => D.s (.bl (p x))) = (xs.map p).map (fun b => D.s (.bl b)) by rw [List.map_map]; rfl, kbm]
 simp [List.any_map]
structure Sh (n : Nat) (d : D) : Prop where
 s : shp d = true
 p : dep d ≤ n
theorem Sh.mono {m n : Nat} {d : D} (h : Sh m d) (k : m ≤ n) : Sh n d := ⟨h.s, Nat.le_trans h.p k⟩
theorem Sh.int {i : Int} : Sh 0 (.s (.int i)) := ⟨qal, Nat.le_of_eq dep_int⟩
theorem Sh.bl {i : Bool} : Sh 0 (.s (.bl i)) := ⟨shp_bl, Nat.le_of_eq dep_bl⟩
theorem Sh.non : Sh 0 (.s .non) := ⟨shp_non, Nat.le_of_eq dep_non⟩
theorem Sh.str {z : Str} (h : okS z) : Sh 0 (.s (.str z)) := ⟨shp_str.trans h, Nat.le_of_eq dep_str⟩
theorem Sh.tup {n : Nat} {ds : List D} (h : ∀ d ∈ ds, Sh n d) (k : n ≤ 63) : Sh (n + 1) (.tup ds) := ⟨shp_tup (fun d m => (h d m).s) (fun d m => (h d m).p) k, dep_tup (fun d m => (h d m).s) fun d m => (h d m).p⟩
theorem Sh.lst {n : Nat} {ds : List D} (h : ∀ d ∈ ds, Sh n d) (k : n ≤ 63) : Sh (n + 1) (.lst ds) := ⟨shp_lst (fun d m => (h d m).s) (fun d m => (h d m).p) k, dep_lst (fun d m => (h d m).s) fun d m => (h d m).p⟩
theorem shp_lay {d : D} (h : shp d = true) : (py d).canLay0 = true := by
 unfold shp at h
 cases q : toPy d with
 | none => rw [q] at h; cases h
 | some a =>
  rw [q] at h
  rw [ybo q]
  unfold SeqAt.shaped at h
  simp only [Bool.and_eq_true] at h
  first | exact h.1 | exact h.2
theorem ne_self {n : Nat} {d : D} (h : Sh n d) : neD d d = some (rvB false) := by rw [zbp h.s h.s, SeqAt.eqv_refl _ (shp_lay h.s)]; rfl
theorem cutG_drop {α : Type} {xs : List α} {i : Nat} : cutG xs (some (i : Int)) none = xs.drop i := by
 unfold cutG
 rw [HT.sIx_nat, HT.sIx_none]
 by_cases h : i ≤ xs.length
 ·rw [Nat.min_eq_left h]
  exact List.take_of_length_le (by rw [List.length_drop]; omega)
 ·rw [Nat.min_eq_right (by omega), List.drop_length, List.drop_eq_nil_of_le (by omega), List.take_nil]
end PL
namespace PL
open PySem L2 PySem.Spec PyProof.Rows
section
variable {QDs : List D → En → Prop} {E : Exn → En → Prop} {ρ : En}
def three3 (ds : List D) (Q : D → D → D → Prop) : Prop := match ds with
 | [d, e, f] => Q d e f
 | _ => False
theorem xo {d e f : D} {Q : D → D → D → Prop} : three3 [d, e, f] Q ↔ Q d e f := Iff.rfl
end
end PL
namespace PL
open PySem L2 PySem.Spec PyProof.Rows
section
variable {QR : Rv → En → Prop} {E : Exn → En → Prop} {ρ : En}
def isLs (d : D) (Q : List D → Prop) : Prop := match d with
 | .lst ds => Q ds
 | _ => False
theorem zau {ds : List D} {Q : List D → Prop} : isLs (.lst ds) Q ↔ Q ds := Iff.rfl
end
end PL
namespace PL
open PySem L2 PySem.Spec PyProof.Rows
theorem rev_adj (n : Nat) : Builtin.Slice.sliceAdjust none none (-1) (n : Int) = ((n : Int) - 1, -1) := rfl
theorem rev_plc (n : Nat) : Builtin.Slice.slicePlaces ((n : Int) - 1) (-1) (-1) = n := by
 unfold Builtin.Slice.slicePlaces
 rw [if_neg (by decide)]
 by_cases c : (n : Int) - 1 > -1
 ·rw [if_pos c, show ((n : Int) - 1 - -1 - 1) = (n : Int) - 1 by omega, show (- -1 : Int) = 1 by decide, Int.ediv_one]
  omega
 ·rw [if_neg c]
  omega
theorem fm_congr {α β : Type} {f g : α → Option β} : ∀ {xs : List α}, (∀ x ∈ xs, f x = g x) → xs.filterMap f = xs.filterMap g
 | [], _ => rfl
 | x :: xs, h => by
  rw [List.filterMap_cons, List.filterMap_cons, h x List.mem_cons_self, fm_congr fun y m => h y (List.mem_cons_of_mem _ m)]
theorem rev_pck (xs : Array Value) : ((List.range xs.size).filterMap fun (m : Nat) => xs[(((xs.size : Int) - 1) + (m : Int) * (-1)).toNat]?).toArray = xs.toList.reverse.toArray := by
 congr 1
 have e : (List.range xs.size).filterMap (fun (m : Nat) => xs[(((xs.size : Int) - 1) + (m : Int) * (-1)).toNat]?) = (List.range xs.size).filterMap (fun m => xs[xs.size - 1 - m]?) := by
  refine fm_congr fun m hm => ?_
  rw [List.mem_range] at hm
  rw [show (((xs.size : Int) - 1) + (m : Int) * (-1)).toNat = xs.size - 1 - m by omega]
 rw [e]
 have e2 : (fun (m : Nat) => xs[xs.size - 1 - m]?) = (fun (k : Nat) => xs[k]?) ∘ fun m => xs.size - 1 - m := rfl
 rw [e2, ← List.filterMap_map, PySem.W.krv_range, List.filterMap_reverse, PySem.W.krv_all]
section
variable {prog : Program} {w : World} {A : Around} {E : Value → Shared → Prop} {s : Shared}
theorem sl_rev {sl : Addr} {v1 v2 v3 : Value} {n : Nat} {Q : Int × Int × Nat → Shared → Prop} (hs : s.heap.IsSliceOf sl v1 v2 v3) (p1 : IsPart v1 none) (p2 : IsPart v2 none) (p3 : IsPart v3 (some (-1)))
  (h : Q ((n : Int) - 1, -1, n) s) : wpAny (model prog w) A (Builtin.Slice.sliceApplied (.ref sl) (pure (n : Int))) Q E s := by
 obtain ⟨oS, hoS, hcS, hdS⟩ := id hs
 (unfold Builtin.Slice.sliceApplied Builtin.Slice.sliceFields)
 refine wpAny_bind (wpAny_bind (wpAny_field hoS hdS (x := v1) rfl (wpAny_bind (wpAny_field hoS hdS (x := v2) rfl (wpAny_bind (wpAny_field hoS hdS (x := v3) rfl (wpAny_pure ?_)))))))
 refine wpAny_bind (HT.slicePart_ p3 ?_)
 show wpAny _ _ (if ((-1 : Int) == 0) = true then _ else _) _ _ s
 rw [if_neg (show ¬ ((-1 : Int) == 0) = true by decide)]
 refine wpAny_bind (HT.slicePart_ p1 (wpAny_bind (HT.slicePart_ p2 (wpAny_bind (wpAny_pure ?_)))))
 show wpAny _ _ (match Builtin.Slice.sliceAdjust none none (-1) (n : Int) with | (lo, hi) => pure (lo, (-1 : Int), Builtin.Slice.slicePlaces lo hi (-1))) _ _ s
 rw [rev_adj n]
 show wpAny _ _ (pure ((n : Int) - 1, (-1 : Int), Builtin.Slice.slicePlaces ((n : Int) - 1) (-1) (-1))) _ _ s
 rw [rev_plc]
 exact wpAny_pure h
theorem get_rev {t sl : Addr} {its : Array Value} {v1 v2 v3 : Value} {Q : Value → Shared → Prop} (hT : IsTup s.heap t its) (hs : s.heap.IsSliceOf sl v1 v2 v3) (p1 : IsPart v1 none) (p2 : IsPart v2 none) (p3 : IsPart v3 (some (-1)))
  (h : Q (.ref s.heap.objs.size) { s with heap := s.heap.push { cls := .type "tuple", data := .seq its.toList.reverse.toArray } }) (hZ : its.size ≤ sizeLine) : wpAny (model prog w) A (getItem (.ref t) (.ref sl)) Q E s := by
 have hF : sizeOk (.seq its.toList.reverse.toArray) := by
  show its.toList.reverse.toArray.size ≤ sizeLine
  rw [List.size_toArray, List.length_reverse, Array.length_toList]
  exact hZ
 obtain ⟨oS, hoS, hcS, hdS⟩ := id hs
 have hK : s.TypeIs (.ref sl) "slice" := ⟨oS, hoS, hcS⟩
 unfold getItem
 (try with_reducible refine wpAny_holding ?_); (first | refine wpAny_bind (wpAny_pure ?_) | skip)
 refine wpAny_bind (wpAny_sequenceKey hT.typeIs (by decide) ?_)
 refine wpAny_bind (wpAny_callSpecial?_slot (name := Str.ofString "__getitem__") hT.typeIs PyProof.Rows.slot_tuple_getitem (wpAny_call_entry PyProof.Rows.slot_tuple_getitem hT.typeIs entry_tuple_getitem ?_ (args_tuple_getitem _ _)))
 (show wpAny _ _ (Builtin.Tuple.tupleItemsOf (.ref t) >>= _) _ _ s)
 refine wpAny_bind (tupleItemsOf_ hT ?_)
 refine wpAny_bind (wpAny_typeOf hK ?_)
 rw [if_pos (show _ by decide)]
 refine wpAny_bind (sl_rev hs p1 p2 p3 ?_)
 have hN : ¬ (((((its.size : Nat) : Int) - 1) == 0 && (-1 : Int) == 1 && its.size == its.size) = true) := by simp
 show wpAny _ _ (if (((((its.size : Nat) : Int) - 1) == 0 && (-1 : Int) == 1 && its.size == its.size)) = true then _ else _) _ _ s
 rw [if_neg hN, rev_pck]
 first
  | exact wpAny_bind (m := Builtin.Tuple.tupleExact _) (wpAny_newObj_type (wpAny_pure ⟨_, rfl, wpAny_pure h⟩) hF)
  | exact wpAny_bind (m := Builtin.Tuple.tupleExact _) (wpAny_newObj_type (wpAny_bind (wpAny_pure (wpAny_pure ⟨_, rfl, wpAny_pure h⟩))) hF)
  | exact wpAny_bind (wpAny_bind (m := Builtin.Tuple.tupleExact _) (wpAny_newObj_type (wpAny_pure (wpAny_pure ⟨_, rfl, wpAny_pure h⟩)) hF))
  | exact wpAny_bind (wpAny_bind (m := Builtin.Tuple.tupleExact _) (wpAny_newObj_type (wpAny_pure ⟨_, rfl, wpAny_pure h⟩) hF))
end
def tRevT (K : PySem.W.Frag) (te : TE) : TE := fun σ H Q => te σ H fun x H1 => ∃ a xs, x = .ref a ∧ SqT K H1 a xs ∧ ∀ p o, H1 p = none → o.dict = none → Q (.ref p) (upd H1 p (.frz o (.tup xs.reverse)))
theorem pe_revT {X : Cx} {e : Expr} {te : TE} {kk : Nat} {q1 q2 q3 pos : Pos} (he : PE X e te) : PE X (.Subscript e (.Slice none none (some (.UnaryOp .USub (.Constant (.int 1) kk q1) q2)) q3) pos) (tRevT X.K te) := by
 constructor
 intro pins s σ H Q I h
 refine Subscript_ (thn (he.run pins s σ H _ I h) fun v s1 hh => ?_)
 obtain ⟨x, H1, I1, r1, a, xs, ex, hx, hq⟩ := hh
 subst ex
 cases r1
 have hTurn : PO X (some (.UnaryOp .USub (.Constant (.int 1) kk q1) q2)) (tPart (tUn (rU fun i => .int (-i)) (tC (.int 1)))) := po_some (pe_un un_neg pe_int)
 refine wpAny_Slice (thn (po_none.run pins s1 σ H1 (fun o K2 => o = none ∧ K2 = H1) I1 ⟨rfl, rfl⟩) fun vl s2 hh => ?_)
 obtain ⟨l, K2, I2, pl, rfl, rfl⟩ := hh
 refine thn (po_none.run pins s2 σ K2 (fun o K3 => o = none ∧ K3 = K2) I2 ⟨rfl, rfl⟩) fun vu s3 hh => ?_
 obtain ⟨u, K3, I3, pu, rfl, rfl⟩ := hh
 refine thn (hTurn.run pins s3 σ K3 (fun o K4 => o = some (-1) ∧ K4 = K3) I3 ⟨1, rfl, -1, rfl, rfl, rfl⟩) fun vs sN hh => ?_
 obtain ⟨o, K4, I4, ps, rfl, rfl⟩ := hh
 have I5 : Inv X pins σ K4 { sN with heap := sN.heap.push { cls := .type "slice", data := .fields #[vl, vu, vs] } } := I4.kept (t' := sN.toks) fun b ob q => Heap.get?_push_of_some _ q
 obtain ⟨its, r, hT, hz⟩ := I5.tuple hx
 have hlen := r.length
 show wpAny (model X.prog X.w) X.A (subscriptTail e (.Slice none none (some (.UnaryOp .USub (.Constant (.int 1) kk q1) q2)) q3) (.ref a) (.ref sN.heap.objs.size)) (EP X pins σ Q) X.xe { sN with heap := sN.heap.push { cls := .type "slice", data := .fields #[vl, vu, vs] } }
 refine tail_any (ops := [.ref a, .ref sN.heap.objs.size]) hT.typeIs (PyProof.Rows.slot_tuple_getitem.lookup) ?_ (by with_unfolding_all rfl)
 refine get_rev hT (Heap.IsSliceOf.new _ vl vu vs) pl pu ps ?_ (by rw [List.size_toArray]; omega)
 refine ⟨.ref _, _, I5.laid (t' := sN.toks) (o := .frz { cls := .type "tuple", data := .seq its.reverse.toArray } (.tup xs.reverse)) (fun b ob q => Heap.get?_push_of_some _ q) (Nat.le_refl _) ?_, rfl, hq _ _ (I5.hok.fresh (Nat.le_refl _)) rfl⟩
 exact ⟨Heap.get?_push_size _ rfl, by rw [List.length_reverse]; exact hz, _, r.reverse, IsTup.new _ _⟩
def fRevT (fo : P Rv) : P Rv := fo.bind fun ro => pk1 ro fun d => match d with
 | .tup ds => P.ret (.dat (.tup ds.reverse))
 | _ => P.fail
section
variable {K : PySem.W.Frag} {W : WX}
theorem iss_rev {C : Hp} : ∀ {ds : List D} {xs : List V}, Iss K C ds xs → Iss K C ds.reverse xs.reverse
 | [], xs, h => by rw [iss_nil_iff.mp h]; exact qf
 | d :: ds, xs, h => by
  obtain ⟨x, r, rfl, h1, h2⟩ := iss_cons_iff.mp h
  rw [List.reverse_cons, List.reverse_cons]
  exact (iss_rev h2).app (kc h1 qf)
theorem sd_revT {to : TE} {fo : P Rv} (ho : Sd K W (VRel K) to fo) : Sd K W (VRel K) (tRevT K to) (fRevT fo) := by
 intro σ C H ρ e
 show At K W (VRel K H) σ C H ρ (fun H Q => to σ H fun x H1 => ∃ a xs, x = .ref a ∧ SqT K H1 a xs ∧ ∀ p o, H1 p = none → o.dict = none → Q (.ref p) (upd H1 p (.frz o (.tup xs.reverse)))) (jf (fo ρ) fun ro => pk1 ro fun d => match d with
  | .tup ds => P.ret (.dat (.tup ds.reverse))
  | _ => P.fail)
 refine At.bind (tk := fun (x : V) (H1 : Hp) (Q : VK) => ∃ a xs, x = .ref a ∧ SqT K H1 a xs ∧ ∀ p o, H1 p = none → o.dict = none → Q (.ref p) (upd H1 p (.frz o (.tup xs.reverse)))) (ho σ C H ρ e) fun ro ρ1 x C1 H1 p1 r1 => ?_
 refine At.pk1 fun d q1 => ?_
 cases d with
 | tup ds =>
  obtain ⟨a, xs, ea, h3, h4⟩ := v7 p1.env.ext (wg p1.env r1 q1)
  exact At.giv p1.env p1.step.dom fun Q g => ⟨a, xs, ea, h3, fun p o hp hd => g.tup p1.env.ext (iss_rev h4) hp hd⟩
 | _ => exact At.nil
end
section
variable {ι : Type} {X : ι → Cx} {P : Program} {w : World} {K : PySem.W.Frag} {mg : Str → Option Value} {base : Heap} {k : Nat} {W : WX} {N : List Str} {sc : Scope} {o : Expr} {fo : PL.P Rv} {j : Nat} {p1 p2 p3 pos : Pos}
theorem be_revT (B : CtxOk X P w K mg base k W N sc) (ho : BE X K W o fo) : BE X K W (.Subscript o (.Slice none none (some (.UnaryOp .USub (.Constant (.int 1) j p1) p2)) p3) pos) (fRevT fo) := by
 obtain ⟨to, po, so⟩ := ho
 exact ⟨_, fun i => by
  have := pe_revT (kk := j) (q1 := p1) (q2 := p2) (q3 := p3) (pos := pos) (po i)
  rw [B.pK i] at this
  exact this, sd_revT so⟩
end
section
variable {QR : Rv → En → Prop} {E : Exn → En → Prop} {ρ : En}
def isTp (d : D) (Q : List D → Prop) : Prop := match d with
 | .tup ds => Q ds
 | _ => False
theorem jau {ds : List D} {Q : List D → Prop} : isTp (.tup ds) Q ↔ Q ds := Iff.rfl
theorem ka8 {fo : P Rv} : wp (fRevT fo) QR E ρ ↔ wp fo (fun ro r1 => wpO (peek r1 ro) fun d => isTp d fun ds => QR (.dat (.tup ds.reverse)) r1) E ρ := by
 unfold fRevT
 rw [wp_bind]
 refine qe fun ro r1 => ?_
 rw [qax]
 refine jax fun d => ?_
 cases d with
 | tup es => exact xl
 | _ => exact Iff.rfl
end
end PL
namespace PL
open PySem L2 PySem.Spec PyProof.Rows
section
variable {K : PySem.W.Frag}
theorem spF_go {N : List Str} {n : Nat} {fx : List Nat} {body : PL.P Fl} {vs : List V} {H : Hp} {Q : VK} {E : XK} {t : TS} (hN : n ≤ N.length) (hs : SdS K (fun cls d _ H => E cls d H) fx t body) (h : spF K n (runF fx N.length body) vs H Q E) : t { nx := fun _ H' => Q .non H', rt := Q } (L2.start N vs) H := by
 obtain ⟨hl, C, cs, out, e, ho, hok, hex⟩ := h
 have hlen : vs.length ≤ N.length := by rw [hl]; exact hN
 have e0 := EnvOk.begin (N := N) hlen e
 unfold runF at ho
 cases q : body (cs ++ List.replicate (N.length - cs.length) .no) with
 | none => rw [q] at ho; cases ho
 | some o =>
  rw [q] at ho
  refine hs (L2.start N vs) C H _ o _ e0 q ?_
  cases o with
  | ex x r =>
   dsimp only at ho
   cases z : merge fx 0 cs r with
   | none => rw [z] at ho; cases ho
   | some cs' =>
    rw [z] at ho; cases ho
    exact fun d σ' C' H' p k => hex x cs' rfl d C' H' (Post.finish e p z) k
  | ok fl r =>
   cases fl with
   | next =>
    dsimp only at ho
    cases z : merge fx 0 cs r with
    | none => rw [z] at ho; cases ho
    | some cs' =>
     rw [z] at ho; cases ho
     exact fun σ' C' H' p => (hok _ cs' rfl).2 .non C' H' (Post.finish e p z) (show Is K C' (.s .non) .non from is_s)
   | brk => cases ho
   | cont => cases ho
   | ret v =>
    dsimp only at ho
    cases y : handed cs.length r v with
    | none => rw [y] at ho; cases ho
    | some r' =>
     rw [y] at ho
     dsimp only at ho
     cases z : merge fx 0 cs r with
     | none => rw [z] at ho; cases ho
     | some cs' =>
      rw [z] at ho; cases ho
      exact fun u σ' C' H' p k => (hok r' cs' rfl).2 u C' H' (Post.finish e p z) (VOk.finish e p z k y).2
theorem def_fnD {P : Program} {w : World} {mg : Str → Option Value} {base : Heap} {k n : Nat} {x qual : Str} {pa : Arguments} {bd : List Stmt} {sc : Scope} {dvs : List V} {f : Addr} {fd : FuncData} {N ps : List Str} {fx : List Nat} {body : PL.P Fl} (F : FunD K x qual pa bd sc dvs [] f fd) (S : FnScope N ps sc) (hn : ps.length = n) (hN : n ≤ N.length)
  (hbody : ∀ (cdv : Value) (A : Around) (outer : List PySem.Env) (s : Shared) (H : Hp) (E : XK), CtxOk (fun _ : Unit => cxOf (L2.CX P w) P w K mg base N qual sc f cdv A outer s H E) P w K mg base k (WB E) N sc →
   BSs (fun _ : Unit => cxOf (L2.CX P w) P w K mg base N qual sc f cdv A outer s H E) K (WB E) fx bd body) : FnOk P w K mg base (L2.CX P w) (k + 1) f fd ps (spF K n (runF fx N.length body)) := by
 refine F.ok S (fun vs H Q E h => by rw [hn]; exact h.1) fun cdv A outer s H vs Q E hr h => ?_
 obtain ⟨t, h1, h2⟩ := hbody cdv A outer s H E ⟨fun _ => rfl, fun _ => rfl, fun _ => rfl, fun _ => rfl, fun _ => rfl, fun _ => hr, fun _ => takes_of rfl rfl rfl rfl, fun _ => rfl, fun _ => passes_of rfl, fun _ => rfl, fun _ => rfl, S.nd⟩
 exact ⟨t, h1 (), spF_go hN h2 h⟩
end
section
variable {X : Cx} {CX : CXT} {k : Nat} {f C : Addr} {fd : FuncData} {ps : List Str} {sp : Sp} {E : L2.St → XK} {x m : Str} {p pos apos : Pos} {e o : Expr} {es : List Expr} {ta : TE} {t : TA} {ds : List Value} {dvs : List V}
theorem run_makeD {pins : List (Addr × Obj)} {σ : L2.St} {H : Hp} {s : Shared} {Q : VK} {us : List Value} {vs : List V} (M : Mk X.K C f) (F : FnOk X.prog X.w X.K X.mg X.base CX k f fd ps sp) (hr : Room (k + 1) X.A) (hb : Binds X.K fd ps ds) (hd : Vals dvs ds)
  (hx : PassesAt CX X σ (E σ)) (I : Inv X pins σ H s) (r : Vals vs us)
  (h : ∀ x dx, H x = none → H dx = none → dx ≠ x → sp (.ref x :: (vs ++ dvs)) (upd (upd H dx (.own x)) x (.ins C dx [])) (fun v H2 => v = .non ∧ Q (.ref x) H2) (E σ)) :
  wpAny (model X.prog X.w) X.A (call (.ref C) us) (EP X pins σ Q) X.xe s := by
 have hq := h (s.heap.objs.size + 1) s.heap.objs.size (I.hok.fresh (Nat.le_succ _)) (I.hok.fresh (Nat.le_refl _)) (Nat.ne_of_lt (Nat.lt_succ_self _))
 have I2 := Inv.made (C := C) I
 have r2 : Vals (V.ref (s.heap.objs.size + 1) :: (vs ++ dvs)) (Value.ref (s.heap.objs.size + 1) :: (us ++ ds)) := .cons rfl (r.append hd)
 have hl : (Value.ref (s.heap.objs.size + 1) :: us ++ ds).length = ps.length := by
  have e := r2.length
  rw [F.len _ _ _ _ hq] at e
  exact e.symm
 have hb2 := hb _ (Value.ref (s.heap.objs.size + 1) :: us) I2.kIn hl
 refine wpAny_call (make_map (f := f) I.kIn M.makes M.init (beq_iff_eq.mp M.fn) (codeAny_mono (F.run _ X.stack _ _ ⟨Value.ref (s.heap.objs.size + 1) :: us, []⟩ (Value.ref (s.heap.objs.size + 1) :: (us ++ ds)) _ _ (E σ) (hr.make C us [])
  (I2.env0.make C us []) hb2 r2 hq) fun r s' hq' => ?_))
 cases r with
 | error e => exact hx pins _ _ e s' I2 hq'
 | ok fl =>
  cases fl with
  | ret u =>
   obtain ⟨v, H', I3, rv, ev, q3⟩ := I2.after hq'
   subst ev
   exact ⟨rv, ⟨V.ref (s.heap.objs.size + 1), H', I3, rfl, q3⟩⟩
  | next => exact False.elim hq'
  | brk => exact False.elim hq'
  | cont => exact False.elim hq'
def spA (sp : Sp) (dvs : List V) : Sp := fun vs H Q E => sp (vs ++ dvs) H Q E
theorem pe_makeD (M : Mk X.K C f) (F : FnOk X.prog X.w X.K X.mg X.base CX k f fd ps sp) (hr : Room (k + 1) X.A) (hg : Gl X x) (hm : X.mg x = some (.ref C)) (hb : Binds X.K fd ps ds) (hd : Vals dvs ds) (hx : ∀ σ, PassesAt CX X σ (E σ))
  (ha : PA X (e :: es) t) (hdb : (x == ("__debug__" : Str)) = false := by decide) (he : starEach (e :: es) X.env = (false, eval e X.env) :: starEach es X.env := by rfl) (hpl : (backTo pos (starEach es X.env)).any (·.1) = false := by rfl) :
  PE X (.Call (.Name x p) (e :: es) [] pos) (xbi C (spA sp dvs) E t) := by
 refine ⟨fun pins s σ H Q I h => ?_⟩
 refine wpAny_Call_Name_kw (ld_glob I hg hm ?_ hdb)
 refine PySem.W.callWith_K (h₀ := X.base) I.ok.mod.kin M.kp (thn (ha.run pos pins s σ H _ I h) fun us s1 hh => ?_) he hpl
 obtain ⟨vs, H1, I1, r, q⟩ := hh
 exact ⟨I1.kIn, run_makeD M F hr hb hd (hx σ) I1 r q⟩
end
def fApp (g : P (List D)) (cs : List V) : P (List D) := g.bind fun ds => P.ret (ds ++ cs.map .s)
section
variable {K : PySem.W.Frag} {W : WX}
theorem va5 {C : Hp} : ∀ cs : List V, Iss K C (cs.map .s) cs
 | [] => qf
 | c :: cs => kc is_s (va5 cs)
theorem sd_app {t : TA} {g : P (List D)} {cs : List V} (hg : Sd K W (j4 K) t g) : Sd K W (j4 K) (fun σ H Q => t σ H fun vs H1 => Q (vs ++ cs) H1) (fApp g cs) := by
 intro σ C H ρ e
 show At K W (j4 K H) σ C H ρ (fun H Q => t σ H fun vs H1 => Q (vs ++ cs) H1) (jf (g ρ) fun ds => P.ret (ds ++ cs.map .s))
 refine At.bind (tk := fun (vs : List V) (H1 : Hp) Q => Q (vs ++ cs) H1) (hg σ C H ρ e) fun ds ρ1 vs C1 H1 p1 r1 => ?_
 exact At.ret (R := j4 K H) (v := vs ++ cs) p1.env (show Iss K C1 (ds ++ cs.map .s) (vs ++ cs) from Iss.app r1 (va5 cs))
theorem sd_makeD {n : Nat} {C : Addr} {F : PL.P Rv} {t : TA} {g : PL.P (List D)} {cs : List V} (hg : Sd K W (j4 K) t g) : Sd K W (VRel K) (xbi C (spA (spF K (n + 1) F) cs) (WE W) t) (kam n C F (fApp g cs)) :=
 sd_make (sd_app (cs := cs) hg)
end
structure ybh (P : Program) (w : World) (K : PySem.W.Frag) (mg : Str → Option Value) (base : Heap) (k : Nat) (x : Str) (n : Nat) (C : Addr) (cs : List V) (F : PL.P Rv) : Prop where
 ex : ∃ (f : Addr) (fd : FuncData) (ps : List Str) (ds : List Value), FnOk P w K mg base (L2.CX P w) k f fd ps (spF K (n + 1) F) ∧ Mk K C f ∧ mg x = some (.ref C) ∧ Binds K fd ps ds ∧ Vals cs ds
theorem make_okD {P : Program} {w : World} {K : PySem.W.Frag} {mg : Str → Option Value} {base : Heap} {k : Nat} {m x qual : Str} {fx : List Nat} {NN ps : List Str} {n : Nat} {pa : Arguments} {bd : List Stmt} {sc : Scope} {dvs cs : List V} {f : Addr} {fd : FuncData} {body : PL.P Fl} {C : Addr} (F : FunD K m qual pa bd sc dvs [] f fd) (M : Mk K C f) (hm : mg x = some (.ref C)) (hb : ∃ ds, Vals cs ds ∧ Binds K fd ps ds) (S : FnScope NN ps sc) (hn : ps.length = n + 1) (hN : n + 1 ≤ NN.length)
  (hbody : ∀ (cdv : Value) (A : Around) (outer : List PySem.Env) (s : Shared) (H : Hp) (E : XK), CtxOk (fun _ : Unit => cxOf (L2.CX P w) P w K mg base NN qual sc f cdv A outer s H E) P w K mg base k (WB E) NN sc →
   BSs (fun _ : Unit => cxOf (L2.CX P w) P w K mg base NN qual sc f cdv A outer s H E) K (WB E) fx bd body) : ybh P w K mg base (k + 1) x n C cs (runF fx NN.length body) := by
 obtain ⟨ds, h1, h2⟩ := hb
 exact ⟨⟨f, fd, ps, ds, def_fnD F S hn hN hbody, M, hm, h2, h1⟩⟩
section
variable {ι : Type} {X : ι → Cx} {P : Program} {w : World} {K : PySem.W.Frag} {mg : Str → Option Value} {base : Heap} {k : Nat} {W : WX} {N : List Str} {sc : Scope} {e : Expr} {es : List Expr} {pos p : Pos} {x : Str} {gd : PL.P (List D)}
theorem be_makeD {n : Nat} {C : Addr} {cs : List V} {F : PL.P Rv} (B : CtxOk X P w K mg base (k + 1) W N sc) (hF : ybh P w K mg base k x n C cs F) (ha : BAd X K W (e :: es) gd) (hg : sc.names.lookup x = some .globalImplicit := by rfl) (hdb : (x == ("__debug__" : Str)) = false := by decide)
  (he : ∀ i, starEach (e :: es) (X i).env = (false, eval e (X i).env) :: starEach es (X i).env := by intro _; rfl) (hpl : ∀ i, (backTo pos (starEach es (X i).env)).any (·.1) = false := by intro _; rfl) : BE X K W (.Call (.Name x p) (e :: es) [] pos) (kam n C F (fApp gd cs)) := by
 obtain ⟨ta, pa, sa⟩ := ha
 obtain ⟨f, fd, ps, ds, h1, h2, h3, h4, h5⟩ := hF.ex
 refine ⟨_, fun i => ?_, sd_makeD sa⟩
 obtain ⟨q1, q2, q3, q4, q5⟩ := And.intro (B.pP i) (And.intro (B.pw i) (And.intro (B.pK i) (And.intro (B.pm i) (B.pb i))))
 subst q1 q2 q3 q4 q5
 exact pe_makeD h2 h1 (B.room i) (B.gl hg i) h3 h4 h5 (fun σ => passAt (B.tk i) σ) (pa i) hdb (he i) (hpl i)
end
section
variable {QD : List D → En → Prop} {E : Exn → En → Prop} {ρ : En}
theorem wp_app {g : P (List D)} {cs : List V} : wp (fApp g cs) QD E ρ ↔ wp g (fun ds r => QD (ds ++ cs.map .s) r) E ρ := by
 unfold fApp
 rw [wp_bind]
 exact qe fun ds r => xl
end
end PL
namespace PL
open PySem L2 PySem.Spec PyProof.Rows
structure MethAtF (K : PySem.W.Frag) (C : Addr) (m qual : Str) (st : Stmt) (f : Addr) (dvs : List V) : Prop where
 at_ : PySem.W.findIn K (.ref C) m = some (some (.ref f))
 isf : PySem.W.isFn K (.ref f) = true
 fn : ∃ fd, FunD K m qual (defArgs st) (defBody st) (defScope st) dvs [] f fd
theorem MethAtF.of {K : PySem.W.Frag} {C : Addr} {m qual : Str} {st : Stmt} {f T : Addr} {dvs : List V} {oc : Value} {od : Option Addr} {dc pm : Value} {an : Option Addr} {cd ct : Value} {sl : Array (Option Value)} {kV tc : Value} {td : Option Addr} {its : Array Value} {n : Nat} {ts : Array (Option Value)}
  (a : PySem.W.findIn K (.ref C) m = some (some (.ref f))) (l : K.lookup f = some ⟨oc, od, .func (PySem.W.fnOf m qual (defArgs st) (defBody st) (defScope st) (.ref T) kV dc pm an cd ct), sl⟩) (c : PySem.W.codeIn K cd qual = true) (k : PySem.W.keepIn K (.ref f) = true) (i : PySem.W.isFn K (.ref f) = true)
  (lT : K.lookup T = some ⟨tc, td, .seq its n, ts⟩) (hv : Vals dvs its.toList) (hd : dvs ≠ []) : MethAtF K C m qual st f dvs :=
 ⟨a, i, _, ⟨⟨oc, od, .ref T, kV, dc, pm, an, cd, ct, sl, rfl, l, c, .inr ⟨hd, T, _, its.toList, n, rfl, lT, by rw [Array.toArray_toList], hv⟩, .inl rfl⟩, k⟩⟩
theorem MethAtF.mkOk {K : PySem.W.Frag} {C : Addr} {q : Str} {st : Stmt} {f : Addr} {dvs : List V} (a : MethAtF K C "__init__" q st f dvs) (h : PySem.W.makesIn K C = true) (k : PySem.W.keepIn K (.ref C) = true) : Mk K C f := ⟨h, a.at_, a.isf, k⟩
end PL
namespace PL
open PySem L2 PySem.Spec PyProof.Rows
def rInT (K : PySem.W.Frag) (b : Bool) : R2 := fun x y H Q => ∃ d ds, Dp K H x d ∧ Dp K H y (.tuple ds) ∧ SeqAt.shaped d = true ∧ SeqAt.shaped (.tuple ds) = true ∧ Q (.bl (b ^^ ds.any fun z => PyData.eqv z d)) H
section
variable {X : Cx}
theorem op_notInT (hu : X.A.units + 65 < cLine) : OpR X (compareOp .NotIn) (rInT X.K true) := by
 intro pins s σ H x y v u Q I rx ry hh
 obtain ⟨d, ds, hd, he, sd, se, hq⟩ := hh
 rw [Bool.true_xor] at hq
 obtain ⟨as, g1⟩ := Dp.reads I d x v hd rx
 obtain ⟨bs, g2⟩ := Dp.reads I (.tuple ds) y u he ry
 exact SeqAt.notIn_tuple_reads g2 g1 (SeqAt.canLay_of_shaped se) (SeqAt.canLay_of_shaped sd) (room_in_shaped sd hu) ⟨.bl _, H, I, rfl, hq⟩
end
def inXB (x y : D) : Option Bool := match toPy x with
 | none => none
 | some a => match toPy y with
  | some (.list ds) => if (SeqAt.shaped a && SeqAt.shaped (.list ds)) = true then some (ds.any fun z => PyData.eqv z a) else none
  | some (.tuple ds) => if (SeqAt.shaped a && SeqAt.shaped (.tuple ds)) = true then some (ds.any fun z => PyData.eqv z a) else none
  | _ => none
def xh (x y : D) : Option Rv := match inXB x y with
 | some b => some (rvB (!b))
 | none => none
theorem inXB_some {x y : D} {b : Bool} (h : inXB x y = some b) : ∃ a ds, toPy x = some a ∧ SeqAt.shaped a = true ∧ b = (ds.any fun z => PyData.eqv z a) ∧ ((toPy y = some (.list ds) ∧ SeqAt.shaped (.list ds) = true) ∨ (toPy y = some (.tuple ds) ∧ SeqAt.shaped (.tuple ds) = true)) := by
 unfold inXB at h
 cases q1 : toPy x with
 | none => rw [q1] at h; cases h
 | some a =>
  rw [q1] at h
  dsimp only at h
  split at h
  ·rename_i ds q2
   obtain ⟨h1, rfl⟩ := vc h
   obtain ⟨h2, h3⟩ := Bool.and_eq_true_iff.mp h1
   exact ⟨a, ds, rfl, h2, rfl, .inl ⟨q2, h3⟩⟩
  ·rename_i ds q2
   obtain ⟨h1, rfl⟩ := vc h
   obtain ⟨h2, h3⟩ := Bool.and_eq_true_iff.mp h1
   exact ⟨a, ds, rfl, h2, rfl, .inr ⟨q2, h3⟩⟩
  ·cases h
section
variable {K : PySem.W.Frag}
theorem ok_notInXD : R2Ok K (fun x y H Q => L2.rNotInD K x y H Q ∨ rInT K true x y H Q) xh := by
 intro C H e dx dy x y rv Q h hx hy g
 unfold xh at h
 cases q : inXB dx dy with
 | none => rw [q] at h; cases h
 | some b =>
  rw [q] at h; cases h
  obtain ⟨a, ds, h1, h2, rfl, ⟨h3, h4⟩ | ⟨h3, h4⟩⟩ := inXB_some q
  ·exact .inl ⟨a, ds, qa3 e h1 hx, qa3 e h3 hy, h2, h4, g.d e⟩
  ·exact .inr ⟨a, ds, qa3 e h1 hx, qa3 e h3 hy, h2, h4, by rw [Bool.true_xor]; exact g.d e⟩
end
section
variable {ι : Type} {X : ι → Cx} {P : Program} {w : World} {K : PySem.W.Frag} {mg : Str → Option Value} {base : Heap} {k : Nat} {W : WX} {N : List Str} {sc : Scope}
theorem kav (B : CtxOk X P w K mg base k W N sc) : COp X K .NotIn xh := .mk _ _ (fun i => by
 have hu : (X i).A.units + 65 < cLine := by have := B.u64 i; omega
 have := (L2.op_notInD (X := X i) hu).or (op_notInT (X := X i) hu)
 rw [B.pK i] at this
 exact this) ok_notInXD
end
theorem inX_of {x : D} {ds : List D} {n : Nat} (hx : shp x = true) (hs : ∀ d ∈ ds, shp d = true) (hd : ∀ d ∈ ds, dep d ≤ n) (hn : n ≤ 63) : inXB x (.tup ds) = some (ds.any fun z => PyData.eqv (py z) (py x)) ∧ inXB x (.lst ds) = some (ds.any fun z => PyData.eqv (py z) (py x)) := by
 have h1 := zan hx
 have h2 := zan (shp_tup hs hd hn)
 have h3 := zan (shp_lst hs hd hn)
 rw [yw hs] at h2
 rw [py_lst hs] at h3
 unfold inXB
 rw [h1.1, h2.1, h3.1]
 dsimp only
 rw [if_pos (by rw [h1.2, h2.2]; rfl), if_pos (by rw [h1.2, h3.2]; rfl), List.any_map]
 exact ⟨rfl, rfl⟩
end PL
namespace PL
open PySem L2 PySem.Spec PyProof.Rows
structure VeCls (K : PySem.W.Frag) (B : Addr) : Prop where
 rd : PySem.W.readsIn K B (.type "type") = true
 ga : PySem.W.specialIn K (.ref B) "__getattribute__" = some (some (.builtin "type.__getattribute__"))
 at_ : PySem.W.findCls K (.ref B) (.type "type") "__init__" = some (.val (.builtin "ValueError.__init__"))
section
variable {X : Cx} {e : Expr} {es : List Expr} {ta : TA} {x : Str} {B : Addr} {p1 p2 pos : Pos}
theorem pe_weinit {pl : Sem Bool} (hg : Gl X x) (hm : X.mg x = some (.ref B)) (V : VeCls X.K B) (hd : (x == ("__debug__" : Str)) = false) (ha : PA X (e :: es) ta)
  (hc : eval (.Call (.Attribute (.Name x p1) "__init__" p2) (e :: es) [] pos) X.env = (do
   let ov ← eval (.Name x p1) X.env
   standAt p2.atName
   let (f, first) ← holding [ov] (getMethod ov "__init__" pl)
   callWith pos f first (backTo pos (starEach (e :: es) X.env)) (backToKw pos (keywordEach [] X.env))))
  (he : starEach (e :: es) X.env = (false, eval e X.env) :: starEach es X.env) (hpl : (backTo pos (starEach es X.env)).any (·.1) = false) :
  PE X (.Call (.Attribute (.Name x p1) "__init__" p2) (e :: es) [] pos) (tVeI X.K ta) := by
 refine ⟨fun pins s σ H Q I h => ?_⟩
 refine PySem.W.methodCall_KW (ld_glob I hg hm ?_ hd) hc
 refine PySem.W.method_cls I.kIn V.ga (PySem.W.cls_value I.kIn V.rd V.at_ (by decide +kernel) ?_)
 show wpAny _ _ (callWith pos (Value.builtin "ValueError.__init__") [] (backTo pos (starEach (e :: es) X.env)) []) _ _ _
 refine PyProof.Rows.callWith_method1 (thn (ha.run pos pins _ σ H _ (I.tok _) h) fun us s1 ⟨vs, H1, I1, r1, a, C, ws, ev, hl, T, ea, q⟩ => ?_) he hpl
 subst ev
 cases r1 with
 | @cons _ u0 _ ur ra rw' =>
  obtain rfl : u0 = Value.ref a := ra
  have hlen : ur.length ≤ sizeLine := by
   rw [← Paired.length rw', sizeLine_eq]
   omega
  exact oinit_ok T I1 ea hlen fun s' J => ⟨.non, H1, J, rfl, q⟩
end
theorem code_wit (c : Addr) (q : Str) : ∃ h : Heap, (∃ (oc : Obj) (vs : Array Value) (t : Tok), h.get? c = some oc ∧ oc.data = .fields vs ∧ vs[1]? = some (.str q t)) ∧ ∃ oc : Obj, h.get? c = some oc ∧ oc.data = .fields #[.none, .str q (0 : Tok)] := by
 have g : ({ objs := Array.replicate (c + 1) ({ cls := .none, dict := none, data := .fields #[.none, .str q (0 : Tok)] } : Obj) } : Heap).get? c = some { cls := .none, dict := none, data := .fields #[.none, .str q (0 : Tok)] } := by
  unfold Heap.get?
  simp
 exact ⟨_, ⟨_, _, _, g, rfl, rfl⟩, _, g, rfl⟩
theorem exo_code {a C : Addr} {d : Option Addr} {q : Str} : exo a C d ≠ LamX.CodeO a q := fun z => by
 obtain ⟨h, h1, oc, g, hd⟩ := code_wit a q
 have z2 := HO.ext.inj z
 have h2 := (congrFun z2 h).mpr h1
 obtain ⟨t1, k⟩ := h2
 rw [g] at k
 obtain rfl := Option.some.inj k
 simp at hd
theorem exd_code {a : Addr} {fs : List (Str × V)} {q : Str} : exd a fs ≠ LamX.CodeO a q := fun z => by
 obtain ⟨h, h1, oc, g, hd⟩ := code_wit a q
 have z2 := HO.ext.inj z
 have h2 := (congrFun z2 h).mpr h1
 obtain ⟨mA, hn, _⟩ := h2
 obtain ⟨o, es, ep, e1, e2, _⟩ := hn
 rw [g] at e1
 obtain rfl := Option.some.inj e1
 rw [hd] at e2
 cases e2
theorem qbb {H : Hp} {P a : Addr} {o : HO} (h : TS1 H P) (ha : ∀ u, H a = some u → NT u ∧ u ≠ LamX.CodeO a lamQ) : TS1 (upd H a o) P := by
 obtain ⟨ps, h1, h2, h3⟩ := h
 refine ⟨ps, ?_, h2, fun pos cv hc => ?_⟩
 ·rw [upd_ne (fun z => by rw [z] at h1; exact (ha _ h1).1 ps rfl)]; exact h1
 ·obtain ⟨c, e1, e2⟩ := h3 pos cv hc
  refine ⟨c, e1, ?_⟩
  rw [upd_ne (fun z => by subst z; exact (ha _ e2).2 rfl)]; exact e2
theorem tab_del {H : Hp} {P a : Addr} (h : TS1 H P) (ha : ∀ u, H a = some u → NT u ∧ u ≠ LamX.CodeO a lamQ) : TS1 (del H a) P := by
 obtain ⟨ps, h1, h2, h3⟩ := h
 refine ⟨ps, ?_, h2, fun pos cv hc => ?_⟩
 ·rw [del_ne (fun z => by rw [z] at h1; exact (ha _ h1).1 ps rfl)]; exact h1
 ·obtain ⟨c, e1, e2⟩ := h3 pos cv hc
  refine ⟨c, e1, ?_⟩
  rw [del_ne (fun z => by subst z; exact (ha _ e2).2 rfl)]; exact e2
theorem qbk {a C : Addr} {d : Option Addr} : NT (exo a C d) := fun ps z => exo_tbl z
theorem nt_exd {a : Addr} {fs : List (Str × V)} : NT (exd a fs) := fun ps z => by
 have z' : HO.ext _ = HO.tbl ps := z
 cases z'
def xiSets : List (Str × PL.P Rv) → List (Str × D) → En → Option (List (Str × D))
 | [], acc, _ => some acc
 | (f, e) :: r, acc, ρ => match xt e ρ with
  | some (.ok d ρ') => xiSets r ((f, d) :: acc) ρ'
  | _ => none
def xiF (ft : PL.P Rv) (sets : List (Str × PL.P Rv)) (ds : List D) : Option (List (Str × D)) := match ft (.no :: ds.map .dat) with
 | some (.ok _ ρ) => xiSets sets [] ρ
 | _ => none
def xiT (K : PySem.W.Frag) : List (Str × TE) → TS
 | [] => tNext
 | (f, te) :: r => tSeq (tOst K f (tVar 0) te) (xiT K r)
def XiOk (K : PySem.W.Frag) (W : WX) (C : Addr) : List (Str × TE) → List (Str × PL.P Rv) → Prop
 | [], [] => True
 | (f, te) :: l, (f', fe) :: r => f = f' ∧ Sd K W (VRel K) te fe ∧ PySem.W.findIn K (.ref C) f = some none ∧ XiOk K W C l r
 | _, _ => False
def spX (K : PySem.W.Frag) (n : Nat) (C : Addr) (F : List D → Option (List (Str × D))) : Sp := fun vs H Q _ => ∃ (a : Addr) (ws : List V), vs = .ref a :: ws ∧ ws.length = n ∧ ∃ C0 ds fs, EnvOk K C0 H (vs.map some) (.no :: ds.map .dat) ∧ C0 a = none ∧ H a = some (exo a C none) ∧ F ds = some fs ∧
 ∀ gs d C' H', Step C0 H C' H' (fun b => b = a) → H' a = some (exo a C (some d)) → H' d = some (exd d gs) → d ≠ a → H d = none → C' a = none → C' d = none → Isf K C' fs gs → Q .non H'
structure XSt (K : PySem.W.Frag) (C a : Addr) (Cs Hs : Hp) (fs : List (Str × D)) (C0 H : Hp) (σ : Sl) (ρ : En) : Prop where
 env : EnvOk K C0 H σ ρ
 no : ∀ b, ¬ qc σ ρ b
 step : Step Cs Hs C0 H (fun b => b = a)
 ca : C0 a = none
 st : (H a = some (exo a C none) ∧ fs = []) ∨ ∃ dx gs, H a = some (exo a C (some dx)) ∧ H dx = some (exd dx gs) ∧ dx ≠ a ∧ C0 dx = none ∧ Hs dx = none ∧ Isf K C0 fs gs
section
variable {K : PySem.W.Frag} {C a : Addr} {Cs Hs C0 H C1 H1 : Hp} {fs : List (Str × D)} {σ : Sl} {ρ ρ1 : En}
theorem XSt.ha (x : XSt K C a Cs Hs fs C0 H σ ρ) : ∃ d, H a = some (exo a C d) := by
 rcases x.st with ⟨h, _⟩ | ⟨dx, gs, h, _⟩
 ·exact ⟨_, h⟩
 ·exact ⟨_, h⟩
theorem XSt.post (x : XSt K C a Cs Hs fs C0 H σ ρ) (p : Post K σ C0 H ρ C1 H1 ρ1) : XSt K C a Cs Hs fs C1 H1 σ ρ1 := by
 obtain ⟨d, ha⟩ := x.ha
 have core : ∀ {b : Addr} {o : HO}, C0 b = none → H b = some o → C1 b = none := fun {b o} hc hh => by
  cases k : C1 b with
  | none => rfl
  | some u =>
   rcases p.step.new b hc (by rw [k]; exact fun z => by cases z) with z | z
   ·rw [hh] at z; cases z
   ·exact absurd z (x.no b)
 refine ⟨p.env, fun b h => x.no b (p.own b h), x.step.trans (p.step.weak fun b h => absurd h (x.no b)) fun b h => .inl h, core x.ca ha, ?_⟩
 rcases x.st with ⟨h, rfl⟩ | ⟨dx, gs, h1, h2, h3, h4, h5, h6⟩
 ·exact .inl ⟨p.step.keep a _ h qbk (x.no a), rfl⟩
 ·exact .inr ⟨dx, gs, p.step.keep a _ h1 qbk (x.no a), p.step.keep dx _ h2 nt_exd (x.no dx), h3, core h4 h2, h5, Isf.mono p.step.core fs gs h6⟩
theorem EnvOk.asideX {L : Addr} {o : HO} (e : EnvOk K C0 H σ ρ) (hc : C0 L = none) (hn : ¬ qc σ ρ L) (hx : ∀ u, H L = some u → NT u ∧ u ≠ LamX.CodeO L lamQ) : EnvOk K C0 (upd H L o) σ ρ := by
 refine ⟨e.len, ⟨fun a u h n => ?_, fun a h => ?_⟩, fun i c h => ?_, e.inj, fun P h => qbb (e.tab P h) hx⟩
 ·rw [upd_ne (fun z => by rw [z, hc] at h; cases h)]; exact e.ext.1 a u h n
 ·by_cases hb : a = L
  ·rw [hb]; exact hc
  ·rw [upd_ne hb] at h; exact e.ext.2 a h
 ·obtain ⟨v, hv, ok⟩ := e.cell i c h
  refine ⟨v, hv, ?_⟩
  cases c with
  | no => trivial
  | dat d => exact ok
  | own m =>
   obtain ⟨p, u, q1, q2, q3, q4⟩ := ok
   refine ⟨p, u, q1, q2, ?_, q4⟩
   rw [upd_ne (fun z => hn ⟨i, m, h, by rw [hv, q1, z]⟩)]; exact q3
theorem Step.asideX {L : Addr} {o : HO} (s : Step Cs Hs C0 H (fun b => b = a)) (hL : L = a ∨ Hs L = none) (hc : C0 L = none) (hx : ∀ u, H L = some u → NT u ∧ u ≠ LamX.CodeO L lamQ) : Step Cs Hs C0 (upd H L o) (fun b => b = a) := by
 refine ⟨s.core, ⟨fun b u h n => ?_, fun b h => ?_⟩, fun b u h nt hb => ?_, s.new, fun b h => ?_, fun P q => qbb (s.tabs P q) hx⟩
 ·rw [upd_ne (fun z => by rw [z, hc] at h; cases h)]; exact s.ext.1 b u h n
 ·by_cases hb : b = L
  ·rw [hb]; exact hc
  ·rw [upd_ne hb] at h; exact s.ext.2 b h
 ·rw [upd_ne (fun z => by
   rcases hL with w | w
   ·exact hb (z.trans w)
   ·rw [z, w] at h; cases h)]
  exact s.keep b u h nt hb
 ·by_cases hb : b = L
  ·rw [hb, upd_same] at h; cases h
  ·rw [upd_ne hb] at h; exact s.dom b h
theorem xi_run {W : WX} (T : OexC K C) {D : Ends} (hσ : σ[0]? = some (some (.ref a))) {fin : List (Str × PL.D)}
  (hfin : ∀ gs d C' H', Step Cs Hs C' H' (fun b => b = a) → H' a = some (exo a C (some d)) → H' d = some (exd d gs) → d ≠ a → Hs d = none → C' a = none → C' d = none → Isf K C' fin gs → D.nx σ H') :
  ∀ {l : List (Str × TE)} {sets : List (Str × PL.P Rv)}, XiOk K W C l sets →
   ∀ {fs : List (Str × PL.D)} {C0 H : Hp} {ρ : En}, XSt K C a Cs Hs fs C0 H σ ρ → fs.length + sets.length ≤ 900 → (sets = [] → fs ≠ []) → xiSets sets fs ρ = some fin → xiT K l D σ H := by
 intro l
 induction l with
 | nil =>
  intro sets h fs C0 H ρ x hn hne hx
  cases sets with
  | cons q sets => exact h.elim
  | nil =>
  cases hx
  rcases x.st with ⟨h1, rfl⟩ | ⟨dx, gs, h1, h2, h3, h4, h5, h6⟩
  ·exact absurd rfl (hne rfl)
  ·exact hfin gs dx C0 H x.step h1 h2 h3 h5 x.ca h4 h6
 | cons p l ih =>
  intro sets h fs C0 H ρ x hn hne hx
  cases sets with
  | nil => exact h.elim
  | cons q sets =>
  obtain ⟨f, te⟩ := p
  obtain ⟨f', fe⟩ := q
  obtain ⟨rfl, sd, hno, hr⟩ := h
  unfold xiSets at hx
  cases q : xt fe ρ with
  | none => rw [q] at hx; cases hx
  | some o =>
   rw [q] at hx
   cases o with
   | ex e r => cases hx
   | ok d ρ1 =>
    dsimp only at hx
    show te σ H fun y H1 => tVar 0 σ H1 fun xx H2 => _
    refine zw sd σ C0 H ρ x.env _ _ q (fun d' ρ' z y C1 H1 p r => ?_) fun e' ρ' z => by cases z
    cases z
    have x1 := x.post p
    refine ⟨.ref a, hσ, a, C, rfl, T, hno, ?_⟩
    have step : ∀ {H2 : Hp} {dx : Addr} {gs : List (Str × V)}, XSt K C a Cs Hs ((f, d) :: fs) C1 H2 σ ρ1 → xiT K l D σ H2 := fun {H2 dx gs} x2 =>
     ih hr x2 (by rw [List.length_cons]; rw [List.length_cons] at hn; omega) (fun _ z => by cases z) hx
    rcases x1.st with ⟨h1, rfl⟩ | ⟨dx, gs, h1, h2, h3, h4, h5, h6⟩
    ·refine .inl ⟨h1, fun dx hd hne2 => ?_⟩
     have cd : C1 dx = none := x1.env.ext.none hd
     have e1 : EnvOk K C1 (upd H1 dx (exd dx [(f, y)])) σ ρ1 := x1.env.asideX cd (x1.no dx) fun u z => by rw [hd] at z; cases z
     have s1 : Step Cs Hs C1 (upd H1 dx (exd dx [(f, y)])) (fun b => b = a) := x1.step.asideX (.inr (x1.step.dom dx hd)) cd fun u z => by rw [hd] at z; cases z
     have ha : upd H1 dx (exd dx [(f, y)]) a = some (exo a C none) := by rw [upd_ne (Ne.symm hne2)]; exact h1
     have hx2 : ∀ u, upd H1 dx (exd dx [(f, y)]) a = some u → NT u ∧ u ≠ LamX.CodeO a lamQ := fun u z => by rw [ha] at z; cases z; exact ⟨qbk, exo_code⟩
     exact step (dx := dx) (gs := [(f, y)]) ⟨e1.asideX x1.ca (x1.no a) hx2, x1.no, s1.asideX (.inl rfl) x1.ca hx2, x1.ca, .inr ⟨dx, [(f, y)], upd_same, by rw [upd_ne hne2]; exact upd_same, hne2, cd, x1.step.dom dx hd, z6 r jaz⟩⟩
    ·refine .inr ⟨dx, gs, h1, h2, by rw [yal h6]; rw [List.length_cons] at hn; omega, ?_⟩
     have hx2 : ∀ u, H1 dx = some u → NT u ∧ u ≠ LamX.CodeO dx lamQ := fun u z => by rw [h2] at z; cases z; exact ⟨nt_exd, exd_code⟩
     exact step (dx := dx) (gs := (f, y) :: gs) ⟨x1.env.asideX h4 (x1.no dx) hx2, x1.no, x1.step.asideX (.inr h5) h4 hx2, x1.ca, .inr ⟨dx, (f, y) :: gs, by rw [upd_ne (Ne.symm h3)]; exact h1, upd_same, h3, h4, h5, z6 r h6⟩⟩
end
end PL
namespace PL
open PySem L2 PySem.Spec PyProof.Rows
theorem XSt.begin {K : PySem.W.Frag} {C a : Addr} {C0 H : Hp} {σ : Sl} {ρ : En} (e : EnvOk K C0 H σ ρ) (hn : ∀ b, ¬ qc σ ρ b) (hc : C0 a = none) (ha : H a = some (exo a C none)) : XSt K C a C0 H [] C0 H σ ρ :=
 ⟨e, hn, Step.refl e.ext, hc, .inl ⟨ha, rfl⟩⟩
theorem no_own {σ : Sl} {ds : List D} : ∀ b, ¬ qc σ (Cell.no :: ds.map Cell.dat) b := fun b ⟨i, m, h, _⟩ => by
 cases i with
 | zero => simp at h
 | succ i =>
  have h : (ds.map Cell.dat)[i]? = some (.own m) := by simpa using h
  rw [List.getElem?_map] at h
  obtain ⟨d, _, z⟩ := Option.map_eq_some_iff.mp h
  cases z
theorem fnx_ok {P : Program} {w : World} {K : PySem.W.Frag} {mg : Str → Option Value} {base : Heap} {k n : Nat} {x qual : Str} {st : Stmt} {f C : Addr} {fd : FuncData} {N ps : List Str} {ft : PL.P Rv} {sets : List (Str × PL.P Rv)} (F : Fun K x qual st f fd) (S : FnScope N ps (defScope st)) (hn : ps.length = n + 1) (hN : N.length = n + 1)
  (T : OexC K C) (hs : sets ≠ []) (hl : sets.length ≤ 900)
  (hbody : ∀ (cdv : Value) (A : Around) (outer : List PySem.Env) (s : Shared) (H : Hp) (E : XK), CtxOk (fun _ : Unit => cxOf (L2.CX P w) P w K mg base N qual (defScope st) f cdv A outer s H E) P w K mg base k (WB E) N (defScope st) →
   ∃ te l, (∀ i, PSs ((fun _ : Unit => cxOf (L2.CX P w) P w K mg base N qual (defScope st) f cdv A outer s H E) i) (defBody st) (tSeq (tDrop (tVeI K (tCons (tVar 0) (tCons te tNil)))) (xiT K l))) ∧ Sd K (WB E) (VRel K) te ft ∧ XiOk K (WB E) C l sets) :
  FnOk P w K mg base (L2.CX P w) (k + 1) f fd ps (spX K n C (xiF ft sets)) := by
 refine F.okX S (fun vs H Q E ⟨a, ws, e, hw, _⟩ => by rw [e, List.length_cons, hw, hn]) fun cdv A outer s H vs Q E hr h => ?_
 obtain ⟨te, l, h1, h2, h3⟩ := hbody cdv A outer s H E ⟨fun _ => rfl, fun _ => rfl, fun _ => rfl, fun _ => rfl, fun _ => rfl, fun _ => hr, fun _ => takes_of rfl rfl rfl rfl, fun _ => rfl, fun _ => passes_of rfl, fun _ => rfl, fun _ => rfl, S.nd⟩
 refine ⟨_, h1 (), ?_⟩
 obtain ⟨a, ws, rfl, hw, C0, ds, fs, e, hc, ha, hF, q⟩ := h
 have hst : L2.start N (V.ref a :: ws) = (V.ref a :: ws).map some := by
  unfold L2.start
  rw [hN, List.length_cons, hw, Nat.sub_self, List.replicate_zero, List.append_nil]
 rw [hst]
 unfold xiF at hF
 cases q1 : ft (.no :: ds.map .dat) with
 | none => rw [q1] at hF; cases hF
 | some o =>
  rw [q1] at hF
  cases o with
  | ex e r => cases hF
  | ok r ρ1 =>
   dsimp only at hF
   refine ⟨.ref a, rfl, ?_⟩
   refine h2 _ C0 H _ e _ _ q1 (fun r' ρ' z y C1 H1 p rel => ?_) fun e' ρ' z => by cases z
   cases z
   have x1 := (XSt.begin e no_own hc ha).post p
   have ha1 : H1 a = some (exo a C none) := p.step.keep a _ ha qbk (no_own a)
   refine ⟨a, C, [y], rfl, by simp, T, ha1, ?_⟩
   exact xi_run (W := WB E) T (D := { nx := fun _ H' => Q .non H', rt := Q }) (σ := (V.ref a :: ws).map some) (by rfl) (fun gs d C' H' s1 s2 s3 s4 s5 s6 s7 s8 => q gs d C' H' s1 s2 s3 s4 s5 s6 s7 s8) h3 x1 (by rw [List.length_nil]; omega) (fun z => absurd z hs) hF
def vbb (c : Addr) (n : Nat) (F : List D → Option (List (Str × D))) (gd : PL.P (List D)) : PL.P Fl := gd.bind fun ds ρ => if ds.length = n then (match F ds with
 | some fs => some (.ex ⟨c, some fs⟩ ρ)
 | none => none) else none
structure XMkOk (P : Program) (w : World) (K : PySem.W.Frag) (mg : Str → Option Value) (base : Heap) (k : Nat) (x : Str) (n : Nat) (C : Addr) (F : List D → Option (List (Str × D))) : Prop where
 ex : ∃ (f : Addr) (fd : FuncData) (ps : List Str), FnOk P w K mg base (L2.CX P w) k f fd ps (spX K n C F) ∧ OexC K C ∧ PySem.W.findIn K (.ref C) "__init__" = some (some (.ref f)) ∧ PySem.W.typeIn K (.ref f) = some (.type "function") ∧ mg x = some (.ref C) ∧ Binds K fd ps []
section
variable {K : PySem.W.Frag} {W : WX} {fx : List Nat}
theorem iss_len {C : Hp} : ∀ {ds : List D} {vs : List V}, Iss K C ds vs → vs.length = ds.length := fun h => h.length
theorem ss_raiseX {c : Addr} {n : Nat} {F : List D → Option (List (Str × D))} {t : TA} {gd : PL.P (List D)} (hg : Sd K W (j4 K) t gd) (h1000 : n ≤ 1000) : SdS K W fx (fun _ σ H => tMkO c (spX K n c F) [] t σ H fun cls d H' => W cls d σ H') (vbb c n F gd) := by
 intro σ C H ρ out D e ho m
 refine xp (Q := fun vs H1 => vs.length ≤ 1000 ∧ ∀ a, H1 a = none → spX K n c F (.ref a :: (vs ++ [])) (upd H1 a (exo a c none)) (fun v H2 => v = .non ∧ ∃ (d : Addr) (fs : List (Str × V)), H2 a = some (exo a c (some d)) ∧ H2 d = some (exd d fs) ∧ H1 d = none ∧ W (.ref c) (some d) σ (upd (del H2 a) d (.xd fs))) (fun _ _ _ => False)) hg e ho m fun ds ρ1 vs C1 H1 p r k => ?_
 have hvs : vs.length = ds.length := iss_len (show Iss K C1 ds vs from r)
 by_cases hz : ds.length = n
 case neg => rw [if_neg hz] at k; cases k
 rw [if_pos hz] at k
 cases q : F ds with
 | none => rw [q] at k; cases k
 | some fs =>
  rw [q] at k
  cases k
  refine ⟨by omega, fun a na => ?_⟩
  have ca : C1 a = none := p.env.ext.none na
  have e1 : EnvOk K C1 (upd H1 a (exo a c none)) ((V.ref a :: (vs ++ [])).map some) (.no :: ds.map .dat) := by
   rw [List.append_nil]
   refine ⟨by simp [hvs], p.env.ext.trans (Ex.new na), fun i cc h => ?_, fun i j m n b h1 h2 h3 h4 => absurd ⟨i, m, h1, h3⟩ (no_own (σ := (V.ref a :: vs).map some) b), fun P h => jw (p.env.tab P h) na⟩
   cases i with
   | zero =>
    have h : Cell.no = cc := by simpa using h
    subst h
    exact ⟨_, rfl, trivial⟩
   | succ i =>
    have h : (ds.map Cell.dat)[i]? = some cc := by simpa using h
    rw [List.getElem?_map] at h
    obtain ⟨d, hd, rfl⟩ := Option.map_eq_some_iff.mp h
    obtain ⟨v, hv, hi⟩ := Iss.get (show Iss K C1 ds vs from r) hd
    exact ⟨some v, by simp [hv], v, rfl, hi⟩
  refine ⟨a, vs, by rw [List.append_nil], by omega, C1, ds, fs, e1, ca, upd_same, q, fun gs d C' H' s h1 h2 h3 h4 h5 h6 h7 => ⟨rfl, d, gs, h1, h2, by rw [upd_ne h3] at h4; exact h4, ?_⟩⟩
  have hd1 : H1 d = none := by rw [upd_ne h3] at h4; exact h4
  have up : ∀ {b : Addr}, b ≠ a → upd H1 a (exo a c none) b = H1 b := fun {b} z => upd_ne z
  have at3 : ∀ {b : Addr}, b ≠ d → b ≠ a → upd (del H' a) d (.xd gs) b = H' b := fun {b} z1 z2 => by rw [upd_ne z1, del_ne z2]
  have st : Step C1 H1 (upd C' d (.xd gs)) (upd (del H' a) d (.xd gs)) (fun _ => False) := by
   refine ⟨s.core.trans (Ex.new h6), ⟨fun b u h nt => ?_, fun b h => ?_⟩, fun b u h nt _ => ?_, fun b z1 z2 => .inl ?_, fun b h => ?_, fun P h => ?_⟩
   ·by_cases hb : b = d
    ·subst hb; rw [upd_same] at h ⊢; exact h
    ·rw [upd_ne hb] at h
     have hba : b ≠ a := fun z => by rw [z, h5] at h; cases h
     rw [at3 hb hba]; exact s.ext.1 b u h nt
   ·by_cases hb : b = d
    ·subst hb; rw [upd_same] at h; cases h
    ·rw [upd_ne hb]
     by_cases hba : b = a
     ·rw [hba]; exact h5
     ·rw [at3 hb hba] at h; exact s.ext.2 b h
   ·have hba : b ≠ a := fun z => by rw [z, na] at h; cases h
    have hbd : b ≠ d := fun z => by rw [z, hd1] at h; cases h
    rw [at3 hbd hba]
    exact s.keep b u (by rw [up hba]; exact h) nt hba
   ·by_cases hb : b = d
    ·rw [hb]; exact hd1
    ·rw [upd_ne hb] at z2
     by_cases hba : b = a
     ·rw [hba]; exact na
     ·rcases s.new b z1 z2 with z | z
      ·rw [up hba] at z; exact z
      ·exact absurd z hba
   ·by_cases hba : b = a
    ·rw [hba]; exact na
    ·by_cases hb : b = d
     ·rw [hb]; exact hd1
     ·rw [at3 hb hba] at h
      have := s.dom b h
      rw [up hba] at this; exact this
   ·have t1 := s.tabs P (jw h na)
    have t2 := tab_del t1 (fun u z => by rw [h1] at z; cases z; exact ⟨qbk, exo_code⟩)
    exact qbb t2 fun u z => by
     rw [del_ne h3, h2] at z
     cases z
     exact ⟨nt_exd, exd_code⟩
  have p2 : Post K σ C1 H1 ρ1 _ _ ρ1 := Post.of_step p.env st
  exact m (some d) σ _ _ (PostS.of (p.trans p2)) ⟨d, gs, rfl, upd_same, Isf.mono (Ex.new h6) fs gs h7⟩
end
end PL
namespace PL
open PySem L2 PySem.Spec PyProof.Rows
theorem oexC_mk {K : PySem.W.Frag} {C : Addr} {nm q N bs bm sn sub ab col dd k0 k1 k2 k3 k5} (h : K.lookup C = some (excClassObj nm q C N bs bm true sn sub ab col dd k0 k1 k2 k3 k5 "ValueError.__new__")) (hb : PySem.HandSPX.refsVE bm = true)
  (h1 : PySem.W.findIn K (.ref C) "__setattr__" = some (some (.builtin "object.__setattr__"))) (h2 : PySem.W.subIn K (.ref C) (.type "BaseException") = some true) (h3 : PySem.W.typeIn K (.ref C) = some (.type "type")) (h4 : PySem.W.keepIn K (.ref C) = true) : OexC K C := ⟨⟨_, _, _, _, _, _, _, _, _, _, _, _, _, _, _, h, hb⟩, h1, h2, h3, h4⟩
def tXfd (K : PySem.W.Frag) (f : Str) : V → Hp → VK → Prop := fun x H Q => ∃ (a C p : Addr) (gs : List (Str × V)) (v : V), x = .ref a ∧ ExcC K C ∧ PySem.W.findIn K (.ref C) f = some none ∧ H a = some (.ext (ExO a C (some p))) ∧ H p = some (.xd gs) ∧ gs.lookup f = some v ∧ Q v H
theorem pe_xfd {X : Cx} {e : Expr} {te : TE} {pos : Pos} {n : Str} (he : PE X e te) (hb : attributeBase e n X.env (eval e X.env) = eval e X.env) : PE X (.Attribute e n pos) (tUn (tXfd X.K n) te) := by
 refine ⟨fun pins s σ H Q I h => ?_⟩
 refine attr_of hb (thn (he.run pins s σ H _ I h) fun u s1 hh => ?_)
 obtain ⟨x, H1, I1, rx, a, C, p, gs, v, ex, T, hno, ha, hp, l, q⟩ := hh
 subst ex
 obtain rfl : u = Value.ref a := rx
 have hxa : ObjOk X.prog X.w H1 s1.heap a (.ext (ExO a C (some p))) := I1.hok a _ ha
 obtain ⟨o, vs, ho, hz, hd⟩ := hxa.1
 have hx : ObjOk X.prog X.w H1 s1.heap p (.xd gs) := I1.hok p _ hp
 obtain ⟨mA, hns, hr⟩ := hx
 obtain ⟨od, hod, hl⟩ := lookIn_ns hns
 obtain ⟨u, hu, ru⟩ := RelO.some_of (v := v) (o := mA n) (by rw [← l]; exact hr n)
 have J : PySem.W.InstAt s1.heap a o C (some od) := ⟨ho, hz.1, by unfold PySem.W.notCls; rw [hd] <;> rfl, by rw [hz.2]; exact hod⟩
 exact HandSPX.exc_get I1.kIn J T.hg T.hk T.hs (PySem.W.findObj_own T.hd hno rfl (by rw [hl, hu])) (handed_of ru) ⟨v, H1, I1.tok _, ru, q⟩
def va2 (cs : List Addr) (f : Str) : D → Option Rv
 | .exc c true fs => if cs.contains c = true then (match fs.lookup f with
  | some d => some (.dat d)
  | none => none) else none
 | _ => none
section
variable {K : PySem.W.Frag}
theorem ok_xfld {cs : List Addr} {f : Str} (hc : ∀ c, cs.contains c = true → ExcC K c ∧ PySem.W.findIn K (.ref c) f = some none) : R1Ok K (tXfd K f) (va2 cs f) := by
 intro C H e dx x rv Q h hx g
 unfold va2 at h
 split at h
 ·rename_i c fs
  obtain ⟨hE, a, d, gs, rfl, h1, h2, h3⟩ := is_exc_iff.mp (show Is K C (.exc c true fs) x from hx)
  rcases h2 with ⟨z, _⟩ | ⟨p, _, rfl, h4⟩
  ·cases z
  by_cases q : cs.contains c = true
  ·rw [if_pos q] at h
   cases q2 : fs.lookup f with
   | none => rw [q2] at h; cases h
   | some d =>
    rw [q2] at h
    cases h
    obtain ⟨v, h5, h6⟩ := Isf.lookup h3 q2
    exact ⟨a, c, p, gs, v, rfl, (hc c q).1, (hc c q).2, e.1 _ _ h1 (fun _ z => by cases z), e.1 _ _ h4 nt_xd, h5, g.same e h6⟩
  ·rw [if_neg q] at h; cases h
 ·cases h
end
section
variable {ι : Type} {X : ι → Cx} {P : Program} {w : World} {K : PySem.W.Frag} {mg : Str → Option Value} {base : Heap} {k n : Nat} {W : WX} {N : List Str} {sc : Scope} {fx : List Nat}
variable {e : Expr} {es : List Expr} {pos p p2 p1 py pf pos2 epos : Pos} {fe ft : PL.P Rv} {gd : PL.P (List D)} {f x y : Str} {C Bc : Addr} {F : List D → Option (List (Str × D))} {sts : List Stmt} {sets : List (Str × PL.P Rv)}
theorem be_xfld {cs : List Addr} (B : CtxOk X P w K mg base k W N sc) (hc : ∀ c, cs.contains c = true → ExcC K c ∧ PySem.W.findIn K (.ref c) f = some none) (he : BE X K W e fe) (hb : ∀ i, attributeBase e f (X i).env (eval e (X i).env) = eval e (X i).env := by intro _; rfl) : BE X K W (.Attribute e f pos) (fUn (va2 cs f) fe) := by
 obtain ⟨t, p, s⟩ := he
 exact ⟨_, fun i => by have := @pe_xfd (X i) e t pos f (p i) (hb i); rw [B.pK i] at this; exact this, sd_un (ok_xfld hc) s⟩
def BXI (X : ι → Cx) (K : PySem.W.Frag) (W : WX) (C : Addr) (sts : List Stmt) (sets : List (Str × PL.P Rv)) : Prop := ∃ l, (∀ i, PSs (X i) sts (xiT K l)) ∧ XiOk K W C l sets
theorem xb_nil : BXI X K W C [] [] := ⟨[], fun i => pss_nil, trivial⟩
theorem xb_cons (B : CtxOk X P w K mg base k W N sc) (hno : PySem.W.findIn K (.ref C) f = some none) (he : BE X K W e fe) (hr : BXI X K W C sts sets) (h0 : N[0]? = some y := by rfl) (hv : Vis sc y := by first | exact Or.inl rfl | exact Or.inr (Or.inl rfl) | exact Or.inr (Or.inr rfl)) (hd : (y == ("__debug__" : Str)) = false := by decide)
  (hcd : (y == ("__classdict__" : Str)) = false := by decide) (hs : ∀ i, swapsWith e (some (.Attribute (.Name y py) f pf)) pos.line (X i).env = pure false := by intro _; rfl) : BXI X K W C (.Assign [.Attribute (.Name y py) f pf] e pos :: sts) ((f, fe) :: sets) := by
 obtain ⟨te, pe, se⟩ := he
 obtain ⟨l, pl, sl⟩ := hr
 refine ⟨(f, te) :: l, fun i => ?_, rfl, se, hno, sl⟩
 have := @ps_ost (X i) (.Name y py) e (tVar 0) te f pf pos (pe_var (B.at_ h0 i) (B.vis hv i) hd hcd) (pe i) (hs i)
 rw [B.pK i] at this
 exact pss_cons this (pl i)
theorem xb_body {pl : ι → Sem Bool} (B : CtxOk X P w K mg base k W N sc) (V : VeCls K Bc) (hm : mg x = some (.ref Bc)) (he : BE X K W e ft) (hr : BXI X K W C sts sets) (h0 : N[0]? = some y := by rfl) (hv : Vis sc y := by first | exact Or.inl rfl | exact Or.inr (Or.inl rfl) | exact Or.inr (Or.inr rfl)) (hd : (y == ("__debug__" : Str)) = false := by decide)
  (hcd : (y == ("__classdict__" : Str)) = false := by decide) (hg : sc.names.lookup x = some .globalImplicit := by rfl) (hdx : (x == ("__debug__" : Str)) = false := by decide)
  (hc : ∀ i, eval (.Call (.Attribute (.Name x p1) "__init__" p2) [.Name y py, e] [] pos) (X i).env = (do
   let ov ← eval (.Name x p1) (X i).env
   standAt p2.atName
   let (f, first) ← holding [ov] (getMethod ov "__init__" (pl i))
   callWith pos f first (backTo pos (starEach [.Name y py, e] (X i).env)) (backToKw pos (keywordEach [] (X i).env))) := by intro _; rfl)
  (hst : ∀ i, starEach [.Name y py, e] (X i).env = (false, eval (.Name y py) (X i).env) :: starEach [e] (X i).env := by intro _; rfl) (hst2 : ∀ i, starEach [e] (X i).env = (false, eval e (X i).env) :: starEach [] (X i).env := by intro _; rfl)
  (hpl : ∀ i, (backTo pos (starEach [e] (X i).env)).any (·.1) = false := by intro _; rfl)
  (hsw : ∀ i, swapsWith (.Call (.Attribute (.Name x p1) "__init__" p2) [.Name y py, e] [] pos) none epos.line (X i).env = pure false := by intro _; rfl) :
  ∃ te l, (∀ i, PSs (X i) (.Expr (.Call (.Attribute (.Name x p1) "__init__" p2) [.Name y py, e] [] pos) epos :: sts) (tSeq (tDrop (tVeI K (tCons (tVar 0) (tCons te tNil)))) (xiT K l))) ∧ Sd K W (VRel K) te ft ∧ XiOk K W C l sets := by
 obtain ⟨te, pe, se⟩ := he
 obtain ⟨l, pl', sl⟩ := hr
 refine ⟨te, l, fun i => ?_, se, sl⟩
 have h1 : PA (X i) [.Name y py, e] (tCons (tVar 0) (tCons te tNil)) := pa_cons (pe_var (B.at_ h0 i) (B.vis hv i) hd hcd) (pa_cons (pe i) pa_nil (hst2 i)) (hst i)
 have h2 := @pe_weinit (X i) (.Name y py) [e] _ x Bc p1 p2 pos (pl i) (B.gl hg i) (by rw [B.pm i]; exact hm) (by rw [B.pK i]; exact V) hdx h1 (hc i) (hst i) (hpl i)
 rw [B.pK i] at h2
 exact pss_cons (ps_expr h2 (hsw i)) (pl' i)
theorem pmk_oexE {X : Cx} {fI : Addr} {fd : FuncData} {ps : List Str} {sp : Sp} {t : TA} (h1 : X.prog = P) (h2 : X.w = w) (h3 : X.K = K) (h4 : X.mg = mg) (h5 : X.base = base) (T : OexC K C) (iC : PySem.W.findIn K (.ref C) "__init__" = some (some (.ref fI))) (tI : PySem.W.typeIn K (.ref fI) = some (.type "function"))
  (F1 : FnOk P w K mg base (L2.CX P w) k fI fd ps sp) (hr : Room (k + 1) X.A) (hb : Binds K fd ps []) (hg : Gl X x) (hm : mg x = some (.ref C)) (ha : PA X (e :: es) t)
  (hdb : (x == ("__debug__" : Str)) = false) (he : starEach (e :: es) X.env = (false, eval e X.env) :: starEach es X.env) (hpl : (backTo pos (starEach es X.env)).any (·.1) = false) :
  PMk X (.Call (.Name x p) (e :: es) [] pos) (tMkO C sp [] t) := by
 subst h1 h2 h3 h4 h5
 exact pmk_oex (ds := []) T iC tI F1 hr hb .nil passL hg hm ha hdb he hpl
theorem xbm (B : CtxOk X P w K mg base (k + 1) W N sc) (hF : XMkOk P w K mg base k x n C F) (ha : BAd X K W (e :: es) gd) (hn : n ≤ 1000 := by decide) (hg : sc.names.lookup x = some .globalImplicit := by rfl) (hdb : (x == ("__debug__" : Str)) = false := by decide)
  (he : ∀ i, starEach (e :: es) (X i).env = (false, eval e (X i).env) :: starEach es (X i).env := by intro _; rfl) (hpl : ∀ i, (backTo pos (starEach es (X i).env)).any (·.1) = false := by intro _; rfl) :
  BS X K W fx (.Raise (some (.Call (.Name x p) (e :: es) [] pos)) none pos2) (vbb C n F gd) := by
 obtain ⟨t, pt, st⟩ := ha
 obtain ⟨fI, fd, ps, h1, h2, h3, h4, h5, h6⟩ := hF.ex
 exact ⟨_, fun i => ps_raise (W := W) (B.calm i) (B.tk i) (pmk_oexE (B.pP i) (B.pw i) (B.pK i) (B.pm i) (B.pb i) h2 h3 h4 h1 (B.room i) h6 (B.gl hg i) h5 (pt i) hdb (he i) (hpl i)), ss_raiseX st hn⟩
end
section
variable {QF : Fl → En → Prop} {E : Exn → En → Prop} {ρ : En}
theorem xfld_hit {cs : List Addr} {c : Addr} {fs : List (Str × D)} {f : Str} {d : D} {Q : Rv → Prop} (h : cs.contains c = true) (h2 : fs.lookup f = some d) : wpO (va2 cs f (.exc c true fs)) Q ↔ Q (.dat d) := by
 have e : va2 cs f (.exc c true fs) = some (.dat d) := by
  unfold va2
  dsimp only
  rw [if_pos h, h2]
 rw [e]
 exact Iff.rfl
end
end PL
namespace PL
open PySem L2 PySem.Spec PyProof.Rows
end PL
namespace PL
open PySem L2
def zal (G : D → List D → Option Bool) (most : Int) (ds : List D) : Nat → Option (Option Nat)
 | 0 => some none
 | n + 1 => match zal G most ds n with
  | some none => if (n : Int) = most then some (some n) else (match ds[n]? with
   | some d => (match G d (ds.take n) with
    | some true => some none
    | some false => some (some n)
    | none => none)
   | none => none)
  | some (some k) => some (some k)
  | none => none
def npX (ex : Str → Int → Exn) (K : PySem.W.Frag) (cs : List Addr) (G : D → List D → Option Bool) : List D → Option (Option Exn)
 | [.s (.str p), .tup ds, .s (.int most)] => (match zal G most ds ds.length with
  | some none => some none
  | some (some n) => some (some (ex p n))
  | none => none)
 | [.s (.str p), th, .s (.int most)] => (match isiD K cs [th, .s (.ty "tuple")] with
  | some (.dat (.s (.bl false))) => some (some (ex p (-1)))
  | _ => none)
 | _ => none
theorem za5 {G : D → List D → Option Bool} {most : Int} {ds : List D} {n : Nat} (h : zal G most ds n = some none) : ∀ i d, i < n → ds[i]? = some d → (i : Int) ≠ most ∧ G d (ds.take i) = some true := by
 induction n with
 | zero => intro i d hi; omega
 | succ n ih =>
  intro i d hi hd
  unfold zal at h
  cases q : zal G most ds n with
  | none => rw [q] at h; cases h
  | some o =>
   cases o with
   | some k => rw [q] at h; cases h
   | none =>
    rw [q] at h
    dsimp only at h
    by_cases e : (n : Int) = most
    ·rw [if_pos e] at h; cases h
    ·rw [if_neg e] at h
     by_cases hin : i < n
     ·exact ih q i d hin hd
     ·have : i = n := by omega
      subst this
      rw [hd] at h
      dsimp only at h
      refine ⟨e, ?_⟩
      cases q2 : G d (ds.take i) with
      | none => rw [q2] at h; cases h
      | some b => cases b with
       | false => rw [q2] at h; cases h
       | true => rfl
theorem ja5 {G : D → List D → Option Bool} {most : Int} {ds : List D} {n k : Nat} (h : zal G most ds n = some (some k)) : k < n ∧ zal G most ds k = some none ∧ ((k : Int) = most ∨ ((k : Int) ≠ most ∧ ∃ d, ds[k]? = some d ∧ G d (ds.take k) = some false)) := by
 induction n with
 | zero => cases h
 | succ n ih =>
  unfold zal at h
  cases q : zal G most ds n with
  | none => rw [q] at h; cases h
  | some o =>
   cases o with
   | some k' =>
    rw [q] at h
    cases h
    obtain ⟨a, b⟩ := ih q
    exact ⟨by omega, b⟩
   | none =>
    rw [q] at h
    dsimp only at h
    by_cases e : (n : Int) = most
    ·rw [if_pos e] at h
     cases h
     exact ⟨Nat.lt_succ_self _, q, .inl e⟩
    ·rw [if_neg e] at h
     cases hd : ds[n]? with
     | none => rw [hd] at h; cases h
     | some d =>
      rw [hd] at h
      dsimp only at h
      cases q2 : G d (ds.take n) with
      | none => rw [q2] at h; cases h
      | some b => cases b with
       | true => rw [q2] at h; cases h
       | false =>
        rw [q2] at h
        cases h
        exact ⟨Nat.lt_succ_self _, q, .inr ⟨e, d, hd, q2⟩⟩
theorem npGoX_of {G : D → List D → Option Bool} {most : Int} {ds : List D} {g : Nat → Bool} (hg : ∀ (i : Nat) (d : D), ds[i]? = some d → (∀ j, j < i → g j = true) → ((i : Int) = most → g i = false) ∧ ((i : Int) ≠ most → G d (ds.take i) = some (g i))) : ∀ n, n ≤ ds.length → zal G most ds n = some ((List.range n).find? fun i => !g i)
 | 0, _ => rfl
 | n + 1, hn => by
  unfold zal
  rw [npGoX_of hg n (by omega), List.range_succ, List.find?_append]
  cases q : (List.range n).find? fun i => !g i with
  | some k => rfl
  | none =>
   have hall : ∀ j, j < n → g j = true := fun j hj => by
    have := List.find?_eq_none.mp q j (List.mem_range.mpr hj)
    simpa using this
   have hd := List.getElem?_eq_getElem (show n < ds.length by omega)
   obtain ⟨h1, h2⟩ := hg n _ hd hall
   dsimp only
   rw [Option.none_or]
   by_cases e : (n : Int) = most
   ·rw [if_pos e, List.find?_cons, h1 e]; rfl
   ·rw [if_neg e, hd]
    dsimp only
    rw [h2 e]
    cases q2 : g n with
    | true => rw [List.find?_cons, q2]; rfl
    | false => rw [List.find?_cons, q2]; rfl
theorem wp_both {f : P α} {Q : α → En → Prop} {E : Exn → En → Prop} {ρ : En} (h : wp f Q E ρ) : (∃ a r, f ρ = some (.ok a r) ∧ Q a r) ∨ ∃ e r, f ρ = some (.ex e r) ∧ E e r := by
 unfold wp at h
 cases q : f ρ with
 | none => rw [q] at h; exact h.elim
 | some o =>
  rw [q] at h
  cases o with
  | ok a r => exact .inl ⟨a, r, rfl, h⟩
  | ex e r => exact .inr ⟨e, r, rfl, h⟩
end PL
namespace PL
open PySem L2
def truS : V → Option Bool
 | .non => some false
 | .bl b => some b
 | .str z => if z.length ≤ sizeLine then some ((z.length : Int) != 0) else none
 | _ => none
section
variable {QR : Rv → En → Prop} {E : Exn → En → Prop} {ρ : En}
def trQ (d : D) (Q : V → Bool → Prop) : Prop := match d with
 | .s x => wpO (truS x) (Q x)
 | _ => False
theorem yba {Q : V → Bool → Prop} : trQ (.s .non) Q ↔ Q .non false := Iff.rfl
end
end PL
namespace PL
open PySem PySem.Spec PyProof.Rows L2
theorem tupAt0 {K : PySem.W.Frag} {a : Addr} {its : Array Value} {n : Nat} {sl : Array (Option Value)} {ys : List Str} (h : K.lookup a = some ⟨.type "tuple", none, .seq its n, sl⟩) (hz : its.size ≤ 1000000) (hv : Vals (ys.map V.str) its.toList) :
  ∃ (o : Obj) (its : Array Value) (n : Nat), K.lookup a = some o ∧ o.cls = .type "tuple" ∧ o.dict = none ∧ o.data = .seq its n ∧ its.size ≤ sizeLine ∧ Vals (ys.map V.str) its.toList := ⟨_, its, n, h, rfl, rfl, rfl, Nat.le_trans hz (by rw [size_eq]; decide), hv⟩
end PL
namespace PL
open PySem L2 PySem.Spec PyProof.Rows
def un1 : D → D
 | .lab _ d => d
 | d => d
def unl : D → D
 | .lab _ d => d
 | .obj c fs => .obj c (fs.map fun p => (p.1, un1 p.2))
 | d => d
section
variable {K : PySem.W.Frag} {C H C' H' : Hp} {σ σ' : Sl} {ρ ρ' : En}
theorem is_un1 {d : D} {v : V} (h : Is K C d v) : Is K C (un1 d) v := by
 unfold un1
 split
 ·exact (is_lab_iff.mp h).2
 ·exact h
theorem isf_un1 : ∀ {fs : List (Str × D)} {gs : List (Str × V)}, Isf K C fs gs → Isf K C (fs.map fun p => (p.1, un1 p.2)) gs
 | [], gs, h => h
 | (n, d) :: fs, gs, h => by
  obtain ⟨x, r, rfl, h1, h2⟩ := isf_cons_iff.mp h
  exact z6 (is_un1 h1) (isf_un1 h2)
theorem is_unl {d : D} {v : V} (h : Is K C d v) : Is K C (unl d) v := by
 unfold unl
 split
 ·exact (is_lab_iff.mp h).2
 ·obtain ⟨a, dx, gs, h1, h2, h3⟩ := is_obj_iff.mp h
  exact is_obj_iff.mpr ⟨a, dx, gs, h1, h2, isf_un1 h3⟩
 ·exact h
def unlC : Cell → Cell
 | .dat d => .dat (unl d)
 | c => c
def unlE (ρ : En) : En := ρ.map unlC
theorem unlE_own {i : Nat} {m : M} : (unlE ρ)[i]? = some (.own m) ↔ ρ[i]? = some (.own m) := by
 unfold unlE
 rw [List.getElem?_map]
 cases ρ[i]? with
 | none => simp
 | some c => cases c <;> simp [unlC]
theorem j6 (h : ∀ (i : Nat) (m : M), ρ'[i]? = some (.own m) ↔ ρ[i]? = some (.own m)) {a : Addr} : qc σ ρ' a ↔ qc σ ρ a := by
 constructor
 ·rintro ⟨i, m, h1, h2⟩; exact ⟨i, m, (h i m).mp h1, h2⟩
 ·rintro ⟨i, m, h1, h2⟩; exact ⟨i, m, (h i m).mpr h1, h2⟩
theorem env_unl (e : EnvOk K C H σ ρ) : EnvOk K C H σ (unlE ρ) := by
 refine ⟨by unfold unlE; rw [List.length_map]; exact e.len, e.ext, fun i c h => ?_, fun i j m n a h1 h2 h3 h4 => e.inj i j m n a (unlE_own.mp h1) (unlE_own.mp h2) h3 h4, e.tab⟩
 unfold unlE at h
 rw [List.getElem?_map] at h
 obtain ⟨c0, h1, rfl⟩ := Option.map_eq_some_iff.mp h
 obtain ⟨v, hv, ok⟩ := e.cell i c0 h1
 refine ⟨v, hv, ?_⟩
 cases c0 with
 | no => trivial
 | dat d => obtain ⟨x, hx, z⟩ := ok; exact ⟨x, hx, is_unl z⟩
 | own m => exact ok
def unlF : Fl → Fl
 | .ret (.dat d) => .ret (.dat (unl d))
 | f => f
def unlO : Out Fl → Out Fl
 | .ok f r => .ok (unlF f) (unlE r)
 | .ex e r => .ex e (unlE r)
def Labs (G : En → Prop) (L : List Addr → En → En) : Prop := ∀ K C H σ ρ, G ρ → EnvOk K C H σ ρ → ∃ as, EnvOk K C H σ (L as ρ) ∧ ∀ (i : Nat) (m : M), (L as ρ)[i]? = some (.own m) ↔ ρ[i]? = some (.own m)
open Classical in
noncomputable def sLab (G : En → Prop) (L : List Addr → En → En) (f : P Fl) : P Fl := fun ρ =>
 if h : G ρ ∧ ∃ o, ∀ as, ∃ o', f (L as ρ) = some o' ∧ unlO o' = o then some (Classical.choose h.2) else none
theorem met_unl {W : WX} {fx : List Nat} {D : Ends} {out : Out Fl} {ρ1 : En} (same : ∀ (i : Nat) (m : M), ρ1[i]? = some (.own m) ↔ ρ[i]? = some (.own m)) (m : Met K W fx σ C H ρ D (unlO out)) : Met K W fx σ C H ρ1 D out := by
 have post : ∀ {σ' : Sl} {C' H' : Hp} {r : En}, PostS K fx σ C H ρ1 σ' C' H' r → PostS K fx σ C H ρ σ' C' H' (unlE r) := fun {σ' C' H' r} p =>
  ⟨p.step.weak fun a h => .inl ((j6 same).mp h), fun a h => (p.own a ((j6 fun i m => unlE_own).mp h)).imp (fun z => (j6 same).mp z) id, env_unl p.env, p.fix, p.len⟩
 cases out with
 | ok f r =>
  cases f with
  | next => exact fun σ' C' H' p => m σ' C' H' (post p)
  | brk => exact fun σ' C' H' p => m σ' C' H' (post p)
  | cont => exact fun σ' C' H' p => m σ' C' H' (post p)
  | ret v =>
   cases v with
   | dat d => exact fun v σ' C' H' p k => m v σ' C' H' (post p) (is_unl k)
   | new n =>
    refine fun v σ' C' H' p k => m v σ' C' H' (post p) ?_
    obtain ⟨a, o, h1, h2, h3, h4, h5, h6⟩ := k
    exact ⟨a, o, h1, h2, h3, h4, fun z => h5 ((j6 fun i m => unlE_own).mp z), h6⟩
   | bor i =>
    refine fun v σ' C' H' p k => m v σ' C' H' (post p) ?_
    obtain ⟨h1, c, h2⟩ := k
    exact ⟨h1, unlC c, by unfold unlE; rw [List.getElem?_map, h2]; rfl⟩
 | ex e r => exact fun d σ' C' H' p k => m d σ' C' H' (post p) k
theorem ss_lab {W : WX} {fx : List Nat} {t : TS} {f : P Fl} {G : En → Prop} {L : List Addr → En → En} (hL : Labs G L) (hf : SdS K W fx t f) : SdS K W fx t (sLab G L f) := by
 intro σ C H ρ out D e ho m
 unfold sLab at ho
 split at ho
 ·rename_i h
  have hc := Classical.choose_spec h.2
  generalize Classical.choose h.2 = o at hc ho
  cases ho
  obtain ⟨as, e1, same⟩ := hL K C H σ ρ h.1 e
  obtain ⟨o', h1, rfl⟩ := hc as
  exact hf σ C H (L as ρ) o' D e1 h1 (met_unl same m)
 ·cases ho
def peelR : Rv → Rv
 | .dat d => .dat (un1 d)
 | r => r
def kbf (f : P Rv) : P Rv := f.bind fun r => P.ret (peelR r)
theorem sd_peel {W : WX} {t : TE} {f : P Rv} (h : Sd K W (VRel K) t f) : Sd K W (VRel K) t (kbf f) := by
 intro σ C H ρ e
 show At K W (VRel K H) σ C H ρ (fun H Q => t σ H fun v H1 => Q v H1) (jf (f ρ) fun r => P.ret (peelR r))
 refine At.bind (tk := fun v H1 (Q : V → Hp → Prop) => Q v H1) (h σ C H ρ e) fun r ρ1 v C1 H1 p1 r1 => ?_
 refine At.ret (R := VRel K H) (v := v) p1.env ?_
 cases r with
 | dat d => exact is_un1 r1
 | new m => exact r1
 | bor i => exact r1
def rNeId (K : PySem.W.Frag) : R2 := fun x y H Q => ∃ (a b : Addr) (ps : List Addr), x = V.ref a ∧ y = V.ref b ∧ SqT K H a (ps.map V.ref) ∧ SqT K H b (ps.map V.ref) ∧ Q (.bl false) H
theorem op_neId {X : Cx} (hu : X.A.units < cLine) : OpR X (compareOp .NotEq) (rNeId X.K) := by
 intro pins s σ H x y v u Q I rx ry h
 obtain ⟨a, b, ps, rfl, rfl, h1, h2, q⟩ := h
 obtain rfl : v = Value.ref a := rx
 obtain rfl : u = Value.ref b := ry
 obtain ⟨its, r1, p1, _⟩ := I.tuple h1
 obtain ⟨it2, r2, p2, _⟩ := I.tuple h2
 have e1 := refs_at r1
 have e2 := refs_at r2
 subst e1 e2
 have hk := SeqAt.RcNeAt.tuples (A := X.A) (s := s) (e := fun _ => true) p1 p2 hu fun j h1 h2 => SeqAt.EqAt.same _
 have e : (!((List.range (min (ps.map Value.ref).toArray.size (ps.map Value.ref).toArray.size)).all (fun _ => true) && (ps.map Value.ref).toArray.size == (ps.map Value.ref).toArray.size)) = false := by simp
 rw [e] at hk
 exact hk X.prog X.w _ _ ⟨.bl false, H, I, rfl, q⟩
def van : List D → List D → Bool
 | [], [] => true
 | .lab a _ :: xs, .lab b _ :: ys => decide (a = b) && van xs ys
 | _, _ => false
def neIdD : D → D → Option Rv
 | .tup xs, .tup ys => if van xs ys = true then some (rvB false) else none
 | _, _ => none
theorem vbk : ∀ {xs ys : List D} {us vs : List V}, van xs ys = true → Iss K C xs us → Iss K C ys vs → ∃ ps : List Addr, us = ps.map V.ref ∧ vs = ps.map V.ref
 | [], [], us, vs, _, h1, h2 => ⟨[], iss_nil_iff.mp h1, iss_nil_iff.mp h2⟩
 | x :: xs, y :: ys, us, vs, h, h1, h2 => by
  unfold van at h
  split at h
  ·rename_i e1 e2; cases e1
  ·rename_i a d1 xs' b d2 ys' e1 e2
   cases e1
   cases e2
   rw [Bool.and_eq_true, decide_eq_true_eq] at h
   obtain ⟨u, r, rfl, k1, k2⟩ := iss_cons_iff.mp h1
   obtain ⟨v, r', rfl, k3, k4⟩ := iss_cons_iff.mp h2
   obtain ⟨ps, rfl, rfl⟩ := vbk h.2 k2 k4
   refine ⟨a :: ps, ?_, ?_⟩
   ·rw [(is_lab_iff.mp k1).1]; rfl
   ·rw [(is_lab_iff.mp k3).1, ← h.1]; rfl
  ·cases h
 | [], y :: ys, us, vs, h, _, _ => by simp [van] at h
 | x :: xs, [], us, vs, h, _, _ => by cases x <;> simp [van] at h
theorem ok_neId : R2Ok K (rNeId K) neIdD := by
 intro C H e dx dy x y rv Q h hx hy g
 unfold neIdD at h
 split at h
 ·obtain ⟨h1, rfl⟩ := vc h
  obtain ⟨a, us, rfl, k1, k2⟩ := v7 e hx
  obtain ⟨b, vs, rfl, k3, k4⟩ := v7 e hy
  obtain ⟨ps, rfl, rfl⟩ := vbk h1 k2 k4
  exact ⟨a, b, ps, rfl, rfl, k1, k3, g.d e⟩
 ·cases h
end
section
variable {ι : Type} {X : ι → Cx} {P : Program} {w : World} {K : PySem.W.Frag} {mg : Str → Option Value} {base : Heap} {k : Nat} {W : WX} {N : List Str} {sc : Scope} {fx : List Nat} {e : Expr} {fe : PL.P Rv} {s1 s2 : Stmt} {sts : List Stmt} {G1 G2 G3 : PL.P Fl}
theorem c_neId (B : CtxOk X P w K mg base k W N sc) : COp X K .NotEq neIdD := .mk _ _ (fun i => by have := @op_neId (X i) (by have := B.u64 i; omega); rw [B.pK i] at this; exact this) ok_neId
theorem ja1 (h : BE X K W e fe) : BE X K W e (kbf fe) := by
 obtain ⟨t, p, s⟩ := h
 exact ⟨t, p, sd_peel s⟩
theorem bss_lab2 {G : En → Prop} {L : List Addr → En → En} (hL : Labs G L) (h1 : BS X K W fx s1 G1) (h2 : BS X K W fx s2 G2) (h3 : BSs X K W fx sts G3) : BSs X K W fx (s1 :: s2 :: sts) (sSeq (sLab G L (sSeq G1 G2)) G3) := by
 obtain ⟨t1, p1, d1⟩ := h1
 obtain ⟨t2, p2, d2⟩ := h2
 obtain ⟨t3, p3, d3⟩ := h3
 have d12 : SdS K W fx (tSeq t1 t2) (sLab G L (sSeq G1 G2)) := ss_lab hL (ss_seq d1 d2)
 have d123 : SdS K W fx (tSeq (tSeq t1 t2) t3) (sSeq (sLab G L (sSeq G1 G2)) G3) := ss_seq d12 d3
 exact ⟨tSeq t1 (tSeq t2 t3), fun i => pss_cons (p1 i) (pss_cons (p2 i) (p3 i)), d123⟩
end
section
variable {Q : Rv → En → Prop} {QF : Fl → En → Prop} {E : Exn → En → Prop} {ρ : En}
theorem wp_peel {f : P Rv} : wp (kbf f) Q E ρ ↔ wp f (fun r r1 => Q (peelR r) r1) E ρ := by
 unfold kbf
 rw [wp_bind]
 exact qe fun r r1 => Iff.rfl
theorem wp_lab {G : En → Prop} {L : List Addr → En → En} {f : P Fl} {fl : Fl} {r : En} (hG : G ρ) (h : ∀ as, wp f (fun fl' r' => unlF fl' = fl ∧ unlE r' = r) (fun _ _ => False) (L as ρ)) (hQ : QF fl r) : wp (sLab G L f) QF E ρ := by
 have key : ∀ as, ∃ o', f (L as ρ) = some o' ∧ unlO o' = .ok fl r := fun as => by
  have z := h as
  unfold wp at z
  cases q : f (L as ρ) with
  | none => rw [q] at z; exact z.elim
  | some o =>
   rw [q] at z
   cases o with
   | ok a b => exact ⟨_, rfl, by show Out.ok (unlF a) (unlE b) = _; rw [z.1, z.2]⟩
   | ex e b => exact z.elim
 have hh : G ρ ∧ ∃ o, ∀ as, ∃ o', f (L as ρ) = some o' ∧ unlO o' = o := ⟨hG, _, key⟩
 have e : sLab G L f ρ = some (.ok fl r) := by
  unfold sLab
  rw [dif_pos hh]
  have hc := Classical.choose_spec hh.2
  obtain ⟨o', h1, h2⟩ := hc []
  obtain ⟨o'', h3, h4⟩ := key []
  rw [h1] at h3
  cases h3
  rw [← h2, h4]
 exact wp_eq e hQ
theorem peel_dat {d : D} : peelR (.dat d) = .dat (un1 d) := rfl
theorem un1_lab {a : Addr} {d : D} : un1 (.lab a d) = d := rfl
theorem un1_tup {ds : List D} : un1 (.tup ds) = .tup ds := rfl
theorem un1_lst {ds : List D} : un1 (.lst ds) = .lst ds := rfl
end
def putL (ρ : En) (i : Nat) (a : Addr) : En := match ρ[i]? with
 | some (.dat d) => ρ.set i (.dat (.lab a d))
 | _ => ρ
def labN : List Nat → List Addr → En → En
 | [], _, ρ => ρ
 | i :: is, as, ρ => labN is as.tail (putL ρ i (as.headD 0))
def TupAt (is : List Nat) (ρ : En) : Prop := ∀ i ∈ is, ∃ ds, ρ[i]? = some (.dat (.tup ds))
theorem wbb {ρ : En} {i : Nat} {a : Addr} (j : Nat) (m : M) : (putL ρ i a)[j]? = some (.own m) ↔ ρ[j]? = some (.own m) := by
 unfold putL
 split
 ·rename_i d h
  rw [List.getElem?_set]
  by_cases c : i = j
  ·subst c
   rw [if_pos rfl, if_pos (List.getElem?_eq_some_iff.mp h).1, h]
   simp
  ·rw [if_neg c]
 ·exact Iff.rfl
theorem labN_ok : ∀ {is : List Nat} {K : PySem.W.Frag} {C H : Hp} {σ : Sl} {ρ : En}, is.Nodup → TupAt is ρ → EnvOk K C H σ ρ → ∃ as, EnvOk K C H σ (labN is as ρ) ∧ ∀ (i : Nat) (m : M), (labN is as ρ)[i]? = some (.own m) ↔ ρ[i]? = some (.own m)
 | [], K, C, H, σ, ρ, _, _, e => ⟨[], e, fun _ _ => Iff.rfl⟩
 | i :: is, K, C, H, σ, ρ, hn, hG, e => by
  rw [List.nodup_cons] at hn
  obtain ⟨ds, hi⟩ := hG i List.mem_cons_self
  obtain ⟨v, hv, x, rfl, hx⟩ := e.cell i _ hi
  obtain ⟨a, xs, rfl, h2, h3⟩ := is_tup_p hx
  have ep : putL ρ i a = ρ.set i (.dat (.lab a (.tup ds))) := by unfold putL; rw [hi]
  have e1 : EnvOk K C H σ (putL ρ i a) := by
   refine ⟨by rw [ep, List.length_set]; exact e.len, e.ext, fun j c h => ?_, fun j1 j2 m n b h1 h2 h3 h4 => e.inj j1 j2 m n b ((wbb j1 m).mp h1) ((wbb j2 n).mp h2) h3 h4, e.tab⟩
   rw [ep, List.getElem?_set] at h
   by_cases c1 : i = j
   ·subst c1
    rw [if_pos rfl, if_pos (List.getElem?_eq_some_iff.mp hi).1] at h
    cases h
    exact ⟨_, hv, _, rfl, is_lab_iff.mpr ⟨rfl, hx⟩⟩
   ·rw [if_neg c1] at h
    exact e.cell j c h
  have hG1 : TupAt is (putL ρ i a) := fun j hj => by
   obtain ⟨es, he⟩ := hG j (List.mem_cons_of_mem _ hj)
   refine ⟨es, ?_⟩
   rw [ep, List.getElem?_set, if_neg (fun z => hn.1 (by rw [z]; exact hj))]
   exact he
  obtain ⟨as, e2, same⟩ := labN_ok hn.2 hG1 e1
  refine ⟨a :: as, e2, fun j m => (same j m).trans (wbb j m)⟩
theorem labs_tup {is : List Nat} (hn : is.Nodup) : Labs (TupAt is) (labN is) := fun _ _ _ _ _ hG e => labN_ok hn hG e
end PL
namespace LW
open PySem L2 PL
def topS (i : Nat) : Stmt := PySem.Challenge.pw_wishwords_k09_whole_bounds_of_tables.main.body.getD i (.Pass ⟨0, 0, 0, 0⟩)
def clsS (i j : Nat) : Stmt := (C8.clsBody (topS i)).getD j (.Pass ⟨0, 0, 0, 0⟩)
abbrev c_LETTERS : V := .str "abcdefghijklmnopqrstuvwxyz"
abbrev c_MOST_OTHERS : V := .int 4
abbrev c_MOST_WISHES : V := .int 5
abbrev c_OFTENS : List Str := ["one", "maybe", "some", "any"]
structure Ads where
 P : Program
 w : World
 K : W.Frag
 c_WordError : Addr
 c_NoTable : Addr
 c_Kind : Addr
 c_AnyWord : Addr
 c_Begins : Addr
 c_Wish : Addr
 c_Place : Addr
 c_Table : Addr
 cT : Addr
 pT : Addr
 nd : [c_WordError, c_NoTable, c_Kind, c_AnyWord, c_Begins, c_Wish, c_Place, c_Table].Nodup
 kit_AnyWord_Kind : W.kitOne K (.ref c_AnyWord) (.ref c_Kind) = some true
 kit_Begins_Kind : W.kitOne K (.ref c_Begins) (.ref c_Kind) = some true
 kit_Wish_Kind : W.kitOne K (.ref c_Wish) (.ref c_Kind) = some false
 kit_Place_Kind : W.kitOne K (.ref c_Place) (.ref c_Kind) = some false
 kit_Table_Kind : W.kitOne K (.ref c_Table) (.ref c_Kind) = some false
 kit_NoneType_Kind : W.kitOne K (.type "NoneType") (.ref c_Kind) = some false
 kit_bool_Kind : W.kitOne K (.type "bool") (.ref c_Kind) = some false
 kit_int_Kind : W.kitOne K (.type "int") (.ref c_Kind) = some false
 kit_str_Kind : W.kitOne K (.type "str") (.ref c_Kind) = some false
 kit_tuple_Kind : W.kitOne K (.type "tuple") (.ref c_Kind) = some false
 kit_list_Kind : W.kitOne K (.type "list") (.ref c_Kind) = some false
 kit_AnyWord_Wish : W.kitOne K (.ref c_AnyWord) (.ref c_Wish) = some false
 kit_Begins_Wish : W.kitOne K (.ref c_Begins) (.ref c_Wish) = some false
 kit_Wish_Wish : W.kitOne K (.ref c_Wish) (.ref c_Wish) = some true
 kit_Place_Wish : W.kitOne K (.ref c_Place) (.ref c_Wish) = some false
 kit_Table_Wish : W.kitOne K (.ref c_Table) (.ref c_Wish) = some false
 kit_NoneType_Wish : W.kitOne K (.type "NoneType") (.ref c_Wish) = some false
 kit_bool_Wish : W.kitOne K (.type "bool") (.ref c_Wish) = some false
 kit_int_Wish : W.kitOne K (.type "int") (.ref c_Wish) = some false
 kit_str_Wish : W.kitOne K (.type "str") (.ref c_Wish) = some false
 kit_tuple_Wish : W.kitOne K (.type "tuple") (.ref c_Wish) = some false
 kit_list_Wish : W.kitOne K (.type "list") (.ref c_Wish) = some false
 kit_AnyWord_Place : W.kitOne K (.ref c_AnyWord) (.ref c_Place) = some false
 kit_Begins_Place : W.kitOne K (.ref c_Begins) (.ref c_Place) = some false
 kit_Wish_Place : W.kitOne K (.ref c_Wish) (.ref c_Place) = some false
 kit_Place_Place : W.kitOne K (.ref c_Place) (.ref c_Place) = some true
 kit_Table_Place : W.kitOne K (.ref c_Table) (.ref c_Place) = some false
 kit_NoneType_Place : W.kitOne K (.type "NoneType") (.ref c_Place) = some false
 kit_bool_Place : W.kitOne K (.type "bool") (.ref c_Place) = some false
 kit_int_Place : W.kitOne K (.type "int") (.ref c_Place) = some false
 kit_str_Place : W.kitOne K (.type "str") (.ref c_Place) = some false
 kit_tuple_Place : W.kitOne K (.type "tuple") (.ref c_Place) = some false
 kit_list_Place : W.kitOne K (.type "list") (.ref c_Place) = some false
 kit_AnyWord_bool : W.kitOne K (.ref c_AnyWord) (.type "bool") = some false
 kit_AnyWord_str : W.kitOne K (.ref c_AnyWord) (.type "str") = some false
 kit_AnyWord_tuple : W.kitOne K (.ref c_AnyWord) (.type "tuple") = some false
 kit_Begins_bool : W.kitOne K (.ref c_Begins) (.type "bool") = some false
 kit_Begins_str : W.kitOne K (.ref c_Begins) (.type "str") = some false
 kit_Begins_tuple : W.kitOne K (.ref c_Begins) (.type "tuple") = some false
 kit_Wish_bool : W.kitOne K (.ref c_Wish) (.type "bool") = some false
 kit_Wish_str : W.kitOne K (.ref c_Wish) (.type "str") = some false
 kit_Wish_tuple : W.kitOne K (.ref c_Wish) (.type "tuple") = some false
 kit_Place_bool : W.kitOne K (.ref c_Place) (.type "bool") = some false
 kit_Place_str : W.kitOne K (.ref c_Place) (.type "str") = some false
 kit_Place_tuple : W.kitOne K (.ref c_Place) (.type "tuple") = some false
 kit_Table_bool : W.kitOne K (.ref c_Table) (.type "bool") = some false
 kit_Table_str : W.kitOne K (.ref c_Table) (.type "str") = some false
 kit_Table_tuple : W.kitOne K (.ref c_Table) (.type "tuple") = some false
 kit_NoTable_NoTable : W.kitOne K (.ref c_NoTable) (.ref c_NoTable) = some true
 exm_NoTable_WordError : W.exmOne K (.ref c_NoTable) (.ref c_WordError) = some true
def Ads.cs (A : Ads) : List Addr := [A.c_AnyWord, A.c_Begins, A.c_Wish, A.c_Place, A.c_Table]
def Ads.xs (A : Ads) : List Addr := [A.c_NoTable]
def yac (A : Ads) : List Addr := [A.c_NoTable]
def va7 (A : Ads) : List Addr := [A.c_NoTable]
def kak (A : Ads) : List D → Option (List (Str × D)) := xiF (fC (.s (.str "no table"))) [("part", (fVar 1)), ("number", (fVar 2))]
def qac (A : Ads) : List Addr := [A.c_Table]
def xi (A : Ads) : List Addr := [A.c_Wish, A.c_Place]
def jh (A : Ads) : List Addr := [A.c_Wish]
def wab (A : Ads) : List Addr := [A.c_Wish]
def vap (A : Ads) : List Addr := [A.c_Wish]
def yab (A : Ads) : List Addr := [A.c_Wish]
def yf (A : Ads) : List Addr := [A.c_Wish, A.c_Place]
def vt (A : Ads) : List Addr := [A.c_Table]
def wo (A : Ads) : List Addr := [A.c_Place]
def jn (A : Ads) : List Addr := [A.c_Table]
def jav (A : Ads) : List Addr := [A.c_Begins]
def wm (A : Ads) : List Addr := [A.c_Table]
abbrev jay (A : Ads) : D := .obj A.c_AnyWord []
abbrev o_Begins (A : Ads) (x_start : D) : D := .obj A.c_Begins [("start", x_start)]
abbrev jj (A : Ads) (x_name x_letter x_kind x_may x_many x_must : D) : D := .obj A.c_Wish [("name", x_name), ("letter", x_letter), ("kind", x_kind), ("may", x_may), ("many", x_many), ("must", x_must)]
abbrev jab (A : Ads) (x_name x_kind x_often : D) : D := .obj A.c_Place [("name", x_name), ("kind", x_kind), ("often", x_often)]
abbrev qay (A : Ads) (x_wishes x_places x_bars x_needs : D) : D := .obj A.c_Table [("wishes", x_wishes), ("places", x_places), ("bars", x_bars), ("needs", x_needs)]
noncomputable def zak (A : Ads) : PL.P Fl :=
 (qv (jav A) 0 "start" (fVar 1))
noncomputable def ju (A : Ads) : PL.P Rv := runF [0, 1] 2 (zak A)
noncomputable def vac (A : Ads) : PL.P Fl :=
 (sSeq (qv (yf A) 0 "name" (fVar 1))
 (sSeq (qv (jh A) 0 "letter" (fVar 2))
 (sSeq (qv (xi A) 0 "kind" (fVar 3))
 (sSeq (qv (vap A) 0 "may" (fVar 4))
 (sSeq (qv (wab A) 0 "many" (fVar 5))
 (qv (yab A) 0 "must" (fVar 6)))))))
noncomputable def vj (A : Ads) : PL.P Rv := runF [0, 1, 2, 3, 4, 5, 6] 7 (vac A)
noncomputable def wz (A : Ads) : PL.P Fl :=
 (sSeq (qv (yf A) 0 "name" (fVar 1))
 (sSeq (qv (xi A) 0 "kind" (fVar 2))
 (qv (wo A) 0 "often" (fVar 3))))
noncomputable def wk (A : Ads) : PL.P Rv := runF [0, 1, 2, 3] 4 (wz A)
noncomputable def zg (A : Ads) : PL.P Fl :=
 (sRet (kab (fCB (isiD A.K A.cs) (yd (fVar 0) (yd (fC (.s (.ty "str"))) fNil))) (kab (kbl leD leD (fVar 1) (fCB lenD (yd (fVar 0) fNil)) (fVar 2)) (fOp eqD (fM1 kbi (fVar 0) (fC (.s c_LETTERS))) (fC (.s (.str "")))))))
noncomputable def wb (A : Ads) : PL.P Rv := runF [0, 1, 2] 3 (zg A)
noncomputable def qa7 (A : Ads) : PL.P Fl :=
 (sRet (kab (zk 3 (wb A) (uD (fUn (fldD (yf A) "name") (fVar 0)) (uD (fC (.s (.int 2))) (uD (fC (.s (.int 8))) uNil)))) (fOp jbk (fUn (fldD (yf A) "name") (fVar 0)) (fVar 1))))
noncomputable def kr (A : Ads) : PL.P Rv := runF [0, 1] 2 (qa7 A)
noncomputable def zbn (A : Ads) : PL.P Fl :=
 (sSeq (sIf (fOr (fNot (kf (fCB (isiD A.K A.cs) (yd (fVar 0) (yd (fC (.s (.ref A.c_Wish))) fNil))))) (fNot (kf (zk 2 (kr A) (uD (fVar 0) (uD (vy [2] (xab (fVar 1)) (aN 2) fYes (fUn (fldD (yf A) "name") (fVar 2))) uNil))))))
 (sRet (fC (.s (.bl false))))
 xq)
 (sSeq (sIf (kf (fOp xaz (fUn (fldD (jh A) "letter") (fVar 0)) (fC (.s .non))))
 (sIf (fOr (fNot (kf (zk 3 (wb A) (uD (fUn (fldD (jh A) "letter") (fVar 0)) (uD (fC (.s (.int 1))) (uD (fC (.s (.int 1))) uNil)))))) (kf (fOp inD (fUn (fldD (jh A) "letter") (fVar 0)) (vy [2] (xab (fVar 1)) (aN 2) fYes (fUn (fldD (jh A) "letter") (fVar 2))))))
 (sRet (fC (.s (.bl false))))
 xq)
 xq)
 (sSeq (sIf (fNot (kf (fCB allD (yd (vy [3] (xab (fTup (ya (fUn (fldD (vap A) "may") (fVar 0)) (ya (fUn (fldD (wab A) "many") (fVar 0)) (ya (fUn (fldD (yab A) "must") (fVar 0)) vNil))))) (aN 3) fYes (fCB (isiD A.K A.cs) (yd (fVar 3) (yd (fC (.s (.ty "bool"))) fNil)))) fNil))))
 (sRet (fC (.s (.bl false))))
 xq)
 (sRet (fOrV (fCB (isiD A.K A.cs) (yd (fUn (fldD (xi A) "kind") (fVar 0)) (yd (fC (.s (.ref A.c_Kind))) fNil))) (kab (fOp isD (fUn (fldD (xi A) "kind") (fVar 0)) (fC (.s .non))) (fNotV (fUn (fldD (vap A) "may") (fVar 0)))))))))
noncomputable def w0 (A : Ads) : PL.P Rv := runF [0, 1] 4 (zbn A)
noncomputable def wa6 (A : Ads) : PL.P Fl :=
 (sSeq (sIf (fOr (fNot (kf (fCB (isiD A.K A.cs) (yd (fVar 0) (yd (fC (.s (.ref A.c_Place))) fNil))))) (fNot (kf (zk 2 (kr A) (uD (fVar 0) (uD (fVar 1) uNil))))))
 (sRet (fC (.s (.bl false))))
 xq)
 (sRet (kab (fCB (isiD A.K A.cs) (yd (fUn (fldD (xi A) "kind") (fVar 0)) (yd (fC (.s (.ref A.c_Kind))) fNil))) (kab (fCB (isiD A.K A.cs) (yd (fUn (fldD (wo A) "often") (fVar 0)) (yd (fC (.s (.ty "str"))) fNil))) (fOp inD (fUn (fldD (wo A) "often") (fVar 0)) (fC (.tup (c_OFTENS.map fun y => .s (.str y)))))))))
noncomputable def j7 (A : Ads) : PL.P Rv := runF [0, 1] 2 (wa6 A)
noncomputable def xbn (A : Ads) : PL.P Fl :=
 (sSeq (sIf (fOr (fNot (kf (fCB (isiD A.K A.cs) (yd (fVar 0) (yd (fC (.s (.ty "tuple"))) fNil))))) (kf (fOp neD (fCB lenD (yd (fVar 0) fNil)) (fC (.s (.int 2))))))
 (sRet (fC (.s (.bl false))))
 xq)
 (sRet (kab (fOp inD (fOp ixD (fVar 0) (fC (.s (.int 0)))) (fVar 1)) (kab (fOp inD (fOp ixD (fVar 0) (fC (.s (.int 1)))) (fVar 1)) (fOp neD (fOp ixD (fVar 0) (fC (.s (.int 0)))) (fOp ixD (fVar 0) (fC (.s (.int 1)))))))))
noncomputable def w3 (A : Ads) : PL.P Rv := runF [0, 1] 2 (xbn A)
abbrev exNT (A : Ads) (p : Str) (n : Int) : Exn := ⟨A.c_NoTable, some [("number", .s (.int n)), ("part", .s (.str p))]⟩
noncomputable def qu (A : Ads) (act : PL.P (List PL.Arg) → PL.P Rv) : PL.P Fl :=
 (sSeq (sIf (fNot (kf (fCB (isiD A.K A.cs) (yd (fVar 1) (yd (fC (.s (.ty "tuple"))) fNil)))))
 (vbb A.c_NoTable 2 (kak A) (ya (fVar 0) (ya (fUn negD (fC (.s (.int 1)))) vNil)))
 xq)
 (sFor (xbl (ya (fVar 1) vNil)) (aT 2 (zbr (aN 4) (zbr (aN 5) aNil)))
 (sIf (fOr (kf (fOp eqD (fVar 4) (fVar 2))) (fNot (kf (act (uD (fVar 5) (uD (fSl (fVar 1) zNo (zAt (fVar 4))) uNil))))))
 (vbb A.c_NoTable 2 (kak A) (ya (fVar 0) (ya (fVar 4) vNil)))
 xq)))
noncomputable def zc (A : Ads) (act : PL.P (List PL.Arg) → PL.P Rv) : PL.P Rv := runF [0, 1, 2, 3] 6 (qu A act)
noncomputable def zj (A : Ads) : List D → Option (Option Exn) := npX (exNT A) A.K A.cs fun d ahead => va3 (w0 A) [.dat d, .dat (.tup ahead)]
noncomputable def zq (A : Ads) : PL.P Rv := runF [] 4 (sRet (zk 2 (j7 A) (uD (fVar 0) (uD (fOp addD (fVar 2) (vy [3] (xab (fVar 1)) (aN 3) fYes (fUn (fldD (yf A) "name") (fVar 3)))) uNil))))
noncomputable def qd (A : Ads) (nm : D) : List D → Option (Option Exn) := npX (exNT A) A.K A.cs fun d ahead => va3 (zq A) [.dat d, .dat (.tup ahead), .dat nm]
noncomputable def jq (A : Ads) : PL.P Rv := runF [] 3 (sRet (kab (zk 2 (w3 A) (uD (fVar 0) (uD (fVar 2) uNil))) (kab (fOp xh (fVar 0) (fVar 1)) (fOp xh (fRevT (fVar 0)) (fVar 1)))))
noncomputable def wc (A : Ads) (nm : D) : List D → Option (Option Exn) := npX (exNT A) A.K A.cs fun d ahead => va3 (jq A) [.dat d, .dat (.tup ahead), .dat nm]
noncomputable def qq (A : Ads) : PL.P Rv := runF [] 3 (sRet (kab (zk 2 (w3 A) (uD (fVar 0) (uD (fVar 2) uNil))) (fOp xh (fVar 0) (fVar 1))))
noncomputable def yc (A : Ads) (nm : D) : List D → Option (Option Exn) := npX (exNT A) A.K A.cs fun d ahead => va3 (qq A) [.dat d, .dat (.tup ahead), .dat nm]
noncomputable def jaq (A : Ads) : PL.P Fl :=
 (sSeq (ybb (fPart (zj A) (ya (fC (.s (.str "wishes"))) (ya (kbf (fVar 1)) (ya (fC (.s c_MOST_WISHES)) vNil)))))
 (sSeq (sSet 5 (vy [6] (xab (kbf (fVar 1))) (aN 6) fYes (fUn (fldD (yf A) "name") (fVar 6))))
 (sSeq (ybb (wa5 5 (qd A) (ya (fC (.s (.str "places"))) (ya (kbf (fVar 2)) (ya (fC (.s c_MOST_OTHERS)) vNil)))))
 (sSeq (ybb (wa5 5 (wc A) (ya (fC (.s (.str "bars"))) (ya (kbf (fVar 3)) (ya (fC (.s c_MOST_OTHERS)) vNil)))))
 (sSeq (ybb (wa5 5 (yc A) (ya (fC (.s (.str "needs"))) (ya (kbf (fVar 4)) (ya (fC (.s c_MOST_OTHERS)) vNil)))))
 (sSeq (qv (wm A) 0 "wishes" (fVar 1))
 (sSeq (qv (jn A) 0 "places" (fVar 2))
 (sSeq (qv (qac A) 0 "bars" (fVar 3))
 (qv (vt A) 0 "needs" (fVar 4))))))))))
noncomputable def yk (A : Ads) : PL.P Rv := runF [0, 1, 2, 3, 4] 7 (jaq A)
noncomputable def jbn (A : Ads) : PL.P Fl :=
 (sSeq (sSet 2 (fOp modD (fOp zaq (fOp addD (fOp addD (fVar 0) (fOp zaq (fC (.s (.int 7919))) (fVar 1))) (fC (.s (.int 11)))) (fC (.s (.int 48271)))) (fC (.s (.int 2147483647)))))
 (sRet (fOp modD (fOp addD (fOp zaq (fVar 2) (fVar 2)) (fOp zaq (fC (.s (.int 40692))) (fVar 2))) (fC (.s (.int 2147483399))))))
noncomputable def j0 (A : Ads) : PL.P Rv := runF [0, 1] 3 (jbn A)
noncomputable def b_l_draw (A : Ads) : PL.P Fl :=
 (sSeq (sSet 3 (fC (.s (.int 0))))
 (sSeq (sIf (kf (fOp ltXD (fVar 1) (fCB lenD (yd (fVar 0) fNil))))
 (sSet 3 (fOp ixD (fVar 0) (fVar 1)))
 xq)
 (sSeq (sSet 4 (fC (.s (.int 0))))
 (sSeq (sIf (kf (fOp eqD (fOp modD (fVar 3) (fC (.s (.int 2)))) (fC (.s (.int 0)))))
 (sSet 4 (fOp za3 (fCB absD (yd (fVar 3) fNil)) (fC (.s (.int 2)))))
 xq)
 (sRet (fLst (ya (fVar 4) (ya (zk 2 (j0 A) (uD (fVar 3) (uD (fOp addD (fC (.s (.int 300))) (fVar 1)) uNil))) (ya (fVar 2) vNil)))))))))
noncomputable def waw (A : Ads) : PL.P Rv := runF [0, 1, 2] 5 (b_l_draw A)
noncomputable def b_l_next (A : Ads) : PL.P Fl :=
 (sSeq (sIf (kf (fOp gtD (fOp ixD (fVar 0) (fC (.s (.int 0)))) (fC (.s (.int 0)))))
 (sSeq (sSet 2 (fOp modD (fOp ixD (fVar 0) (fC (.s (.int 0)))) (fVar 1)))
 (sSeq (jbj 0 (fC (.s (.int 0))) (fOp za3 (fOp ixD (fVar 0) (fC (.s (.int 0)))) (fVar 1)))
 (sRet (fVar 2))))
 xq)
 (sSeq (sIncL 0 2 1)
 (sRet (fOp modD (fOp za3 (zk 2 (j0 A) (uD (fOp ixD (fVar 0) (fC (.s (.int 1)))) (uD (fOp ixD (fVar 0) (fC (.s (.int 2)))) uNil))) (fC (.s (.int 7)))) (fVar 1)))))
noncomputable def zp (A : Ads) : PL.P Rv := runF [0, 1] 3 (b_l_next A)
noncomputable def b_l_pick (A : Ads) : PL.P Fl :=
 (sRet (fOp ixD (fVar 1) (zk 2 (zp A) (uM 0 (uD (fCB lenD (yd (fVar 1) fNil)) uNil)))))
noncomputable def yaw (A : Ads) : PL.P Rv := runF [0, 1] 2 (b_l_pick A)
noncomputable def b_l_at (A : Ads) : PL.P Fl :=
 (sSeq (sSet 1 (fC (.s .non)))
 (sSeq (sTry A.K A.c_WordError A.xs 2 1
 (ybb (kam 4 A.c_Table (yk A) (ya (fOp ixD (fVar 0) (fC (.s (.int 0)))) (ya (fOp ixD (fVar 0) (fC (.s (.int 1)))) (ya (fOp ixD (fVar 0) (fC (.s (.int 2)))) (ya (fOp ixD (fVar 0) (fC (.s (.int 3)))) vNil)))))))
 (sSeq (sIf (kf (fOp isD (fVar 1) (fC (.s .non))))
 (sRet (fC (.s .non)))
 xq)
 (sRet (fIf (kf (fCB (isiD A.K A.cs) (yd (fVar 1) (yd (fC (.s (.ref A.c_NoTable))) fNil)))) (fTup (ya (fUn (va2 (va7 A) "part") (fVar 1)) (ya (fUn (va2 (yac A) "number") (fVar 1)) vNil))) (fC (.s (.str "other"))))))))
noncomputable def za2 (A : Ads) : PL.P Rv := runF [0] 3 (b_l_at A)
noncomputable def qaq (A : Ads) : PL.P Fl :=
 (sSeq (sSet 1 (fLst vNil))
 (sSeq (sFor (xab (fVar 0)) (aN 2)
 (sSet 1 (fOp addD (fVar 1) (vy [3] (xab (fVar 0)) (aN 3) (kf (fOp ltXD (fVar 2) (fVar 3))) (fTup (ya (fVar 2) (ya (fVar 3) vNil)))))))
 (sRet (fVar 1))))
noncomputable def qp (A : Ads) : PL.P Rv := runF [0] 4 (qaq A)
noncomputable def b_law (A : Ads) : PL.P Fl :=
 (sSeq (sSet 1 (fC (.s (.str "abcdefghijklmnopqrstuvwxyz"))))
 (sSeq (sFor (fRng1 (yd (fCB maxD (yd (fC (.s (.int 1))) (yd (fCB minD (yd (fC (.s (.int 20))) (yd (fCB lenD (yd (fVar 0) fNil)) fNil))) fNil))) fNil)) (aN 2)
 (sSeq (zbj 3 (zk 3 (waw A) (uD (fVar 0) (uD (fVar 2) (uD (fC (.s (.int 0))) uNil)))))
 (sSeq (sSet 4 (zk 2 (yaw A) (uM 3 (uD (fLst (ya (fC (.s (.int 2))) (ya (fC (.s (.int 8))) (ya (fC (.s (.int 5))) vNil)))) uNil))))
 (sSeq (sSet 5 (zk 2 (zp A) (uM 3 (uD (fC (.s (.int 26))) uNil))))
 (sSeq (sSet 6 (vy [20] (fRng1 (yd (fC (.s (.int 11))) fNil)) (aN 20) fYes (fOp zaq (fOp ixD (fVar 1) (fOp modD (fOp addD (fVar 5) (fOp zaq (fC (.s (.int 7))) (fVar 20))) (fC (.s (.int 26))))) (fVar 4))))
 (sSeq (sSet 7 (fCB jae (yd (vy [21] (xab (fSl (fVar 6) zNo (zAt (fC (.s (.int 5)))))) (aN 21) fYes (kam 6 A.c_Wish (vj A) (fApp (ya (fVar 21) (ya (fOp ixD (fVar 21) (fC (.s (.int 0)))) (ya (fBare A.c_AnyWord) vNil))) [.bl false, .bl false, .bl false]))) fNil)))
 (sSeq (sSet 8 (fCB jae (yd (vy [21] (xab (fSl (fVar 6) (zAt (fC (.s (.int 5)))) (zAt (fC (.s (.int 9)))))) (aN 21) fYes (kam 3 A.c_Place (wk A) (ya (fVar 21) (ya (kam 1 A.c_Begins (ju A) (ya (fC (.s (.str "a"))) vNil)) (ya (fC (.s (.str "some"))) vNil))))) fNil)))
 (sSeq (sSet 9 (zk 1 (qp A) (uD (fSl (fVar 6) zNo (zAt (fC (.s (.int 5))))) uNil)))
 (sSeq (sSet 10 (zk 2 (zp A) (uM 3 (uD (fC (.s (.int 6))) uNil))))
 (sSeq (sSet 11 (fCB jae (yd (fSl (fVar 9) (zAt (fVar 10)) (zAt (fOp addD (fVar 10) (fC (.s (.int 4)))))) fNil)))
 (sSeq (sSet 12 (fCB jae (yd (fOp addD (vy [22] (xab (fSl (fVar 9) zNo (zAt (fC (.s (.int 2)))))) (aN 22) fYes (fRevT (fVar 22))) (fSl (fVar 9) zNo (zAt (fC (.s (.int 2)))))) fNil)))
 (sSeq (sIf (kf (fOp xaz (zk 1 (za2 A) (uD (fLst (ya (fVar 7) (ya (fVar 8) (ya (fVar 11) (ya (fVar 12) vNil))))) uNil)) (fC (.s .non))))
 (sRet (fC (.s (.bl false))))
 xq)
 (sSeq (sLab (TupAt [7, 8, 11, 12]) (labN [7, 8, 11, 12]) (sSeq (sSet 13 (kam 4 A.c_Table (yk A) (ya (fVar 7) (ya (fVar 8) (ya (fVar 11) (ya (fVar 12) vNil))))))
 (sIf (kf (fOp neIdD (fTup (ya (fUn (fldD (wm A) "wishes") (fVar 13)) (ya (fUn (fldD (jn A) "places") (fVar 13)) (ya (fUn (fldD (qac A) "bars") (fVar 13)) (ya (fUn (fldD (vt A) "needs") (fVar 13)) vNil))))) (fTup (ya (fVar 7) (ya (fVar 8) (ya (fVar 11) (ya (fVar 12) vNil)))))))
 (sRet (fC (.s (.bl false))))
 xq)))
 (sSeq (sSet 14 (fLst (ya (fOp addD (fVar 7) (fTup (ya (kam 6 A.c_Wish (vj A) (fApp (ya (fOp ixD (fVar 6) (fC (.s (.int 9)))) vNil) [.non, .non, .bl false, .bl false, .bl false])) vNil))) (ya (fOp addD (fVar 8) (fTup (ya (kam 3 A.c_Place (wk A) (ya (fOp ixD (fVar 6) (fC (.s (.int 10)))) (ya (fBare A.c_AnyWord) (ya (fC (.s (.str "one"))) vNil)))) vNil))) vNil))))
 (sSeq (sSet 15 (fOp ixD (vy [22] (xab (fVar 9)) (aN 22) (kf (fOp xh (fVar 22) (fVar 11))) (fVar 22)) (fC (.s (.int 0)))))
 (sSeq (sSet 14 (fOp addD (fVar 14) (fLst (ya (fOp addD (fVar 11) (fTup (ya (fVar 15) vNil))) (ya (fOp addD (fVar 12) (fTup (ya (fOp ixD (fVar 9) (fC (.s (.int 2)))) vNil))) vNil)))))
 (sSeq (sSet 16 (zk 2 (zp A) (uM 3 (uD (fC (.s (.int 4))) uNil))))
 (sSeq (zbj 17 (fLst (ya (fVar 7) (ya (fVar 8) (ya (fVar 11) (ya (fVar 12) vNil))))))
 (sSeq (jbj 17 (fVar 16) (fOp ixD (fVar 14) (fVar 16)))
 (sSeq (sSet 18 (fOp ixD (fLst (ya (fC (.s (.str "wishes"))) (ya (fC (.s (.str "places"))) (ya (fC (.s (.str "bars"))) (ya (fC (.s (.str "needs"))) vNil))))) (fVar 16)))
 (sSeq (sIf (kf (fOp neD (zk 1 (za2 A) (uM 17 uNil)) (fTup (ya (fVar 18) (ya (fOp ixD (fLst (ya (fC (.s (.int 5))) (ya (fC (.s (.int 4))) (ya (fC (.s (.int 4))) (ya (fC (.s (.int 4))) vNil))))) (fVar 16)) vNil)))))
 (sRet (fC (.s (.bl false))))
 xq)
 (sSeq (sSet 19 (zk 2 (zp A) (uM 3 (uD (fCB lenD (yd (fOp ixD (fVar 14) (fVar 16)) fNil)) uNil))))
 (sSeq (jbj 17 (fVar 16) (fOp addD (fOp addD (fSl (fOp ixD (fVar 14) (fVar 16)) zNo (zAt (fVar 19))) (fTup (ya (fC (.s .non)) vNil))) (fSl (fOp ixD (fVar 14) (fVar 16)) (zAt (fOp addD (fVar 19) (fC (.s (.int 1))))) zNo)))
 (sSeq (sIf (kf (fOp neD (zk 1 (za2 A) (uM 17 uNil)) (fTup (ya (fVar 18) (ya (fVar 19) vNil)))))
 (sRet (fC (.s (.bl false))))
 xq)
 (sSeq (jbj 17 (fVar 16) (fCB vbp (yd (fOp ixD (fVar 14) (fVar 16)) fNil)))
 (sIf (kf (fOp neD (zk 1 (za2 A) (uM 17 uNil)) (fTup (ya (fVar 18) (ya (fUn negD (fC (.s (.int 1)))) vNil)))))
 (sRet (fC (.s (.bl false))))
 xq))))))))))))))))))))))))))
 (sRet (fC (.s (.bl true))))))
noncomputable def F_law (A : Ads) : PL.P Rv := runF [0] 23 (b_law A)
structure Txt (A : Ads) (mg : Str → Option Value) (base : Heap) : Prop where
 f_Begins_init : ∃ f fd, Fun A.K "__init__" "Begins.__init__" (clsS 10 0) f fd ∧ Mk A.K A.c_Begins f ∧ Binds A.K fd ["self", "start"] []
 f_Wish_init : ∃ f fd, FunD A.K "__init__" "Wish.__init__" (defArgs (clsS 16 0)) (defBody (clsS 16 0)) (defScope (clsS 16 0)) [.non, .non, .bl false, .bl false, .bl false] [] f fd ∧ Mk A.K A.c_Wish f ∧ (∃ ds, Vals ([.bl false, .bl false, .bl false] : List V) ds ∧ Binds A.K fd ["self", "name", "letter", "kind", "may", "many", "must"] ds) ∧ (∃ ds, Vals ([.non, .non, .bl false, .bl false, .bl false] : List V) ds ∧ Binds A.K fd ["self", "name", "letter", "kind", "may", "many", "must"] ds)
 f_Place_init : ∃ f fd, Fun A.K "__init__" "Place.__init__" (clsS 17 0) f fd ∧ Mk A.K A.c_Place f ∧ Binds A.K fd ["self", "name", "kind", "often"] []
 f_are_letters : ∃ f fd, Fun A.K "are_letters" "are_letters" (topS 6) f fd ∧ mg "are_letters" = some (.ref f) ∧ Binds A.K fd ["thing", "least", "most"] []
 f_is_named : ∃ f fd, Fun A.K "is_named" "is_named" (topS 18) f fd ∧ mg "is_named" = some (.ref f) ∧ Binds A.K fd ["thing", "names"] []
 f_is_wish : ∃ f fd, Fun A.K "is_wish" "is_wish" (topS 19) f fd ∧ mg "is_wish" = some (.ref f) ∧ Binds A.K fd ["thing", "ahead"] []
 f_is_place : ∃ f fd, Fun A.K "is_place" "is_place" (topS 20) f fd ∧ mg "is_place" = some (.ref f) ∧ Binds A.K fd ["thing", "names"] []
 f_is_pair : ∃ f fd, Fun A.K "is_pair" "is_pair" (topS 21) f fd ∧ mg "is_pair" = some (.ref f) ∧ Binds A.K fd ["thing", "names"] []
 f_need_part : ∃ f fd, Fun A.K "need_part" "need_part" (topS 22) f fd ∧ mg "need_part" = some (.ref f) ∧ Binds A.K fd ["part", "things", "most", "is_right"] []
 f_Table_init : ∃ f fd, Fun A.K "__init__" "Table.__init__" (clsS 23 0) f fd ∧ FunC A.K "__init__" "Table.__init__" (clsS 23 0) f fd A.cT ∧ Mk A.K A.c_Table f ∧ Binds A.K fd ["self", "wishes", "places", "bars", "needs"] []
 f_l_mixed : ∃ f fd, Fun A.K "_law_mixed" "_law_mixed" (topS 25) f fd ∧ mg "_law_mixed" = some (.ref f) ∧ Binds A.K fd ["_law_cell", "_law_k"] []
 f_l_draw : ∃ f fd, Fun A.K "_law_draw" "_law_draw" (topS 26) f fd ∧ mg "_law_draw" = some (.ref f) ∧ Binds A.K fd ["_law_script", "_law_k", "_law_count"] []
 f_l_next : ∃ f fd, Fun A.K "_law_next" "_law_next" (topS 27) f fd ∧ mg "_law_next" = some (.ref f) ∧ Binds A.K fd ["_law_draw_here", "_law_size"] []
 f_l_pick : ∃ f fd, Fun A.K "_law_pick" "_law_pick" (topS 28) f fd ∧ mg "_law_pick" = some (.ref f) ∧ Binds A.K fd ["_law_draw_here", "_law_some"] []
 f_l_at : ∃ f fd, Fun A.K "_law_at" "_law_at" (topS 29) f fd ∧ mg "_law_at" = some (.ref f) ∧ Binds A.K fd ["_law_work"] []
 f_l_pairs_of : ∃ f fd, Fun A.K "_law_pairs_of" "_law_pairs_of" (topS 30) f fd ∧ mg "_law_pairs_of" = some (.ref f) ∧ Binds A.K fd ["_law_names"] []
 f_law : ∃ f fd, Fun A.K "law" "law" (topS 31) f fd ∧ mg "law" = some (.ref f) ∧ Binds A.K fd ["_law_script"] []
 k_WordError : mg "WordError" = some (.ref A.c_WordError)
 k_NoTable : mg "NoTable" = some (.ref A.c_NoTable)
 k_Kind : mg "Kind" = some (.ref A.c_Kind)
 k_AnyWord : mg "AnyWord" = some (.ref A.c_AnyWord)
 k_Begins : mg "Begins" = some (.ref A.c_Begins)
 k_Wish : mg "Wish" = some (.ref A.c_Wish)
 k_Place : mg "Place" = some (.ref A.c_Place)
 k_Table : mg "Table" = some (.ref A.c_Table)
 cl_AnyWord : Cls A.K A.c_AnyWord
 b_AnyWord : Bare A.K A.c_AnyWord
 cl_Begins : Cls A.K A.c_Begins
 cl_Wish : Cls A.K A.c_Wish
 cl_Place : Cls A.K A.c_Place
 cl_Table : Cls A.K A.c_Table
 na_bars : ∀ c, (qac A).contains c = true → Cls A.K c ∧ NoAttr A.K c "bars"
 na_kind : ∀ c, (xi A).contains c = true → Cls A.K c ∧ NoAttr A.K c "kind"
 na_letter : ∀ c, (jh A).contains c = true → Cls A.K c ∧ NoAttr A.K c "letter"
 na_many : ∀ c, (wab A).contains c = true → Cls A.K c ∧ NoAttr A.K c "many"
 na_may : ∀ c, (vap A).contains c = true → Cls A.K c ∧ NoAttr A.K c "may"
 na_must : ∀ c, (yab A).contains c = true → Cls A.K c ∧ NoAttr A.K c "must"
 na_name : ∀ c, (yf A).contains c = true → Cls A.K c ∧ NoAttr A.K c "name"
 na_needs : ∀ c, (vt A).contains c = true → Cls A.K c ∧ NoAttr A.K c "needs"
 na_often : ∀ c, (wo A).contains c = true → Cls A.K c ∧ NoAttr A.K c "often"
 na_places : ∀ c, (jn A).contains c = true → Cls A.K c ∧ NoAttr A.K c "places"
 na_start : ∀ c, (jav A).contains c = true → Cls A.K c ∧ NoAttr A.K c "start"
 na_wishes : ∀ c, (wm A).contains c = true → Cls A.K c ∧ NoAttr A.K c "wishes"
 z_abs : mg "abs" = none
 z_all : mg "all" = none
 z_bool : mg "bool" = none
 z_enumerate : mg "enumerate" = none
 z_isinstance : mg "isinstance" = none
 z_len : mg "len" = none
 z_list : mg "list" = none
 z_max : mg "max" = none
 z_min : mg "min" = none
 z_range : mg "range" = none
 z_str : mg "str" = none
 z_tuple : mg "tuple" = none
 c_LETTERS : ∃ u, mg "LETTERS" = some u ∧ RelV c_LETTERS u
 c_MOST_OTHERS : ∃ u, mg "MOST_OTHERS" = some u ∧ RelV c_MOST_OTHERS u
 c_MOST_WISHES : ∃ u, mg "MOST_WISHES" = some u ∧ RelV c_MOST_WISHES u
 c_OFTENS : ∃ (v : V) (u : Value), mg "OFTENS" = some u ∧ RelV v u ∧ ∀ C, Is A.K C (.tup (c_OFTENS.map fun y => .s (.str y))) v
 tb : LamX.TabB base mg A.cT A.pT
 tabP : TabP A.K A.pT
 ox_NoTable : OexC A.K A.c_NoTable
 xn_NoTable_part : W.findIn A.K (.ref A.c_NoTable) "part" = some none
 xn_NoTable_number : W.findIn A.K (.ref A.c_NoTable) "number" = some none
 fx_NoTable : ∃ f fd, Fun A.K "__init__" "NoTable.__init__" (clsS 2 0) f fd ∧ W.findIn A.K (.ref A.c_NoTable) "__init__" = some (some (.ref f)) ∧ W.typeIn A.K (.ref f) = some (.type "function") ∧ Binds A.K fd ["self", "part", "number"] []
 ve_WordError : VeCls A.K A.c_WordError
 xfd_number : ∀ c, (yac A).contains c = true → ExcC A.K c ∧ W.findIn A.K (.ref c) "number" = some none
 xfd_part : ∀ c, (va7 A).contains c = true → ExcC A.K c ∧ W.findIn A.K (.ref c) "part" = some none
 xcs : ∀ c, A.xs.contains c = true → ExcC A.K c
 isi : ∀ c, A.cs.contains c = true → IsiCls A.K c
section
variable {A : Ads} {mg : Str → Option Value} {base : Heap}
theorem xbo : FnScope ["self", "part", "number"] ["self", "part", "number"] (defScope (clsS 2 0)) := ⟨rfl, rfl, rfl, by decide +kernel, rfl, by decide +kernel, by decide +kernel⟩
theorem qa6 (T : Txt A mg base) (k : Nat) : XMkOk A.P A.w A.K mg base (k + 1) "NoTable" 2 A.c_NoTable (kak A) := by
 obtain ⟨f, fd, h1, h2, h3, h4⟩ := T.fx_NoTable
 exact ⟨⟨f, fd, ["self", "part", "number"], fnx_ok (k := k) h1 xbo rfl rfl T.ox_NoTable (by simp) (by decide) fun _ _ _ _ _ _ B =>
  xb_body B T.ve_WordError T.k_WordError jo (xb_cons B T.xn_NoTable_part (qa B 1) (xb_cons B T.xn_NoTable_number (qa B 2) xb_nil)), T.ox_NoTable, h2, h3, T.k_NoTable, h4⟩⟩
theorem wa2 : FnScope ["self", "start"] ["self", "start"] (defScope (clsS 10 0)) := ⟨rfl, rfl, rfl, by decide +kernel, rfl, by decide +kernel, by decide +kernel⟩
theorem xbg (T : Txt A mg base) (k : Nat) : ka7 A.P A.w A.K mg base (k + 1) "Begins" 1 A.c_Begins (ju A) := by
 obtain ⟨f, fd, h1, h2, h3⟩ := T.f_Begins_init
 exact make_ok (k := k + 0) (fx := [0, 1]) h1 h2 T.k_Begins h3 wa2 rfl (by decide) fun _ _ _ _ _ _ B =>
 (jb (ve B 0 T.na_start (qa B 1)))
theorem xan : FnScope ["self", "name", "letter", "kind", "may", "many", "must"] ["self", "name", "letter", "kind", "may", "many", "must"] (defScope (clsS 16 0)) := ⟨rfl, rfl, rfl, by decide +kernel, rfl, by decide +kernel, by decide +kernel⟩
theorem jbg (T : Txt A mg base) (k : Nat) : ybh A.P A.w A.K mg base (k + 1) "Wish" 6 A.c_Wish [.bl false, .bl false, .bl false] (vj A) := by
 obtain ⟨f, fd, h1, h2, h3⟩ := T.f_Wish_init
 exact make_okD (k := k + 0) (fx := [0, 1, 2, 3, 4, 5, 6]) h1 h2 T.k_Wish h3.1 xan rfl (by decide) fun _ _ _ _ _ _ B =>
 (za (ve B 0 T.na_name (qa B 1))
 (za (ve B 0 T.na_letter (qa B 2))
 (za (ve B 0 T.na_kind (qa B 3))
 (za (ve B 0 T.na_may (qa B 4))
 (za (ve B 0 T.na_many (qa B 5))
 (jb (ve B 0 T.na_must (qa B 6))))))))
theorem zbg (T : Txt A mg base) (k : Nat) : ybh A.P A.w A.K mg base (k + 1) "Wish" 6 A.c_Wish [.non, .non, .bl false, .bl false, .bl false] (vj A) := by
 obtain ⟨f, fd, h1, h2, h3⟩ := T.f_Wish_init
 exact make_okD (k := k + 0) (fx := [0, 1, 2, 3, 4, 5, 6]) h1 h2 T.k_Wish h3.2 xan rfl (by decide) fun _ _ _ _ _ _ B =>
 (za (ve B 0 T.na_name (qa B 1))
 (za (ve B 0 T.na_letter (qa B 2))
 (za (ve B 0 T.na_kind (qa B 3))
 (za (ve B 0 T.na_may (qa B 4))
 (za (ve B 0 T.na_many (qa B 5))
 (jb (ve B 0 T.na_must (qa B 6))))))))
theorem kbb : FnScope ["self", "name", "kind", "often"] ["self", "name", "kind", "often"] (defScope (clsS 17 0)) := ⟨rfl, rfl, rfl, by decide +kernel, rfl, by decide +kernel, by decide +kernel⟩
theorem kap (T : Txt A mg base) (k : Nat) : ka7 A.P A.w A.K mg base (k + 1) "Place" 3 A.c_Place (wk A) := by
 obtain ⟨f, fd, h1, h2, h3⟩ := T.f_Place_init
 exact make_ok (k := k + 0) (fx := [0, 1, 2, 3]) h1 h2 T.k_Place h3 kbb rfl (by decide) fun _ _ _ _ _ _ B =>
 (za (ve B 0 T.na_name (qa B 1))
 (za (ve B 0 T.na_kind (qa B 2))
 (jb (ve B 0 T.na_often (qa B 3)))))
theorem ya2 : FnScope ["thing", "least", "most"] ["thing", "least", "most"] (defScope (topS 6)) := ⟨rfl, rfl, rfl, by decide +kernel, rfl, by decide +kernel, by decide +kernel⟩
theorem wai (T : Txt A mg base) (k : Nat) : xak A.P A.w A.K mg base (k + 1) "are_letters" 3 (wb A) := by
 obtain ⟨f, fd, h1, h2, h3⟩ := T.f_are_letters
 exact wy (k := k + 0) (fx := [0, 1, 2]) h1 h2 h3 ya2 rfl (by decide) fun _ _ _ _ _ _ B =>
 (jb (vf (yz (ql B (wa3 T.isi B T.z_isinstance) (xb (qa B 0) (xb (qa1 B T.z_str (by decide +kernel)) ye))) (yz (be_chain (c_le B) (c_le B) (qa B 1) (ql B (b_len B T.z_len) (xb (qa B 0) ye)) (qa B 2)) (wap (jaa (c_eq B) (be_m1 (m_strip B) (qa B 0) (jak B T.c_LETTERS)) jo))))))
theorem vbo : FnScope ["thing", "names"] ["thing", "names"] (defScope (topS 18)) := ⟨rfl, rfl, rfl, by decide +kernel, rfl, by decide +kernel, by decide +kernel⟩
theorem za6 (T : Txt A mg base) (k : Nat) : xak A.P A.w A.K mg base (k + 2) "is_named" 2 (kr A) := by
 obtain ⟨f, fd, h1, h2, h3⟩ := T.f_is_named
 exact wy (k := k + 1) (fx := [0, 1]) h1 h2 h3 vbo rfl (by decide) fun _ _ _ _ _ _ B =>
 (jb (vf (yz (wd B (wai T (k + 0)) (aa_d (kg B T.na_name (qa B 0)) (aa_d wa (aa_d wa vg)))) (wap (jaa (c_notIn B) (kg B T.na_name (qa B 0)) (qa B 1))))))
theorem sc_is_wish : FnScope ["thing", "ahead", "wish", "truth"] ["thing", "ahead"] (defScope (topS 19)) := ⟨rfl, rfl, rfl, by decide +kernel, rfl, by decide +kernel, by decide +kernel⟩
theorem d_is_wish (T : Txt A mg base) (k : Nat) : xak A.P A.w A.K mg base (k + 3) "is_wish" 2 (w0 A) := by
 obtain ⟨f, fd, h1, h2, h3⟩ := T.f_is_wish
 exact wy (k := k + 2) (fx := [0, 1]) h1 h2 h3 sc_is_wish rfl (by decide) fun _ _ _ _ _ _ B =>
 (za (vz (bt_w (bw_or (waj (qaa (ql B (wa3 T.isi B T.z_isinstance) (xb (qa B 0) (xb (qbn B T.k_Wish) ye))))) (zbm (waj (qaa (wd B (za6 T (k + 0)) (aa_d (qa B 0) (aa_d (ya3 B [("wish", 2)] (bi_X B (qa B 1)) (kh (B.blk _) 2) yt (kg (B.blk _) T.na_name (qa (B.blk _) 2))) vg))))))))
 (jb (vf va1))
 qg)
 (za (vz (xn (c_isNot B) (kg B T.na_letter (qa B 0)) za1)
 (jb (vz (bt_w (bw_or (waj (qaa (wd B (wai T (k + 1)) (aa_d (kg B T.na_letter (qa B 0)) (aa_d wa (aa_d wa vg)))))) (zbm (xn (c_in B) (kg B T.na_letter (qa B 0)) (ya3 B [("wish", 2)] (bi_X B (qa B 1)) (kh (B.blk _) 2) yt (kg (B.blk _) T.na_letter (qa (B.blk _) 2)))))))
 (jb (vf va1))
 qg))
 qg)
 (za (vz (waj (qaa (ql B (b_all B T.z_all) (xb (ya3 B [("truth", 3)] (bi_X B (jr (xa (kg B T.na_may (qa B 0)) (xa (kg B T.na_many (qa B 0)) (xa (kg B T.na_must (qa B 0)) jc))))) (kh (B.blk _) 3) yt (ql (B.blk _) (wa3 T.isi (B.blk _) T.z_isinstance) (xb (qa (B.blk _) 3) (xb (qa1 (B.blk _) T.z_bool (by decide +kernel)) ye)))) ye))))
 (jb (vf va1))
 qg)
 (jb (vf (be_or (ql B (wa3 T.isi B T.z_isinstance) (xb (kg B T.na_kind (qa B 0)) (xb (qbn B T.k_Kind) ye))) (wap (yz (jaa (c_is B) (kg B T.na_kind (qa B 0)) za1) (wap (be_not (kg B T.na_may (qa B 0))))))))))))
theorem kbo : FnScope ["thing", "names"] ["thing", "names"] (defScope (topS 20)) := ⟨rfl, rfl, rfl, by decide +kernel, rfl, by decide +kernel, by decide +kernel⟩
theorem d_is_place (T : Txt A mg base) (k : Nat) : xak A.P A.w A.K mg base (k + 3) "is_place" 2 (j7 A) := by
 obtain ⟨f, fd, h1, h2, h3⟩ := T.f_is_place
 exact wy (k := k + 2) (fx := [0, 1]) h1 h2 h3 kbo rfl (by decide) fun _ _ _ _ _ _ B =>
 (za (vz (bt_w (bw_or (waj (qaa (ql B (wa3 T.isi B T.z_isinstance) (xb (qa B 0) (xb (qbn B T.k_Place) ye))))) (zbm (waj (qaa (wd B (za6 T (k + 0)) (aa_d (qa B 0) (aa_d (qa B 1) vg))))))))
 (jb (vf va1))
 qg)
 (jb (vf (yz (ql B (wa3 T.isi B T.z_isinstance) (xb (kg B T.na_kind (qa B 0)) (xb (qbn B T.k_Kind) ye))) (yz (ql B (wa3 T.isi B T.z_isinstance) (xb (kg B T.na_often (qa B 0)) (xb (qa1 B T.z_str (by decide +kernel)) ye))) (wap (jaa (c_in B) (kg B T.na_often (qa B 0)) (be_globD B T.c_OFTENS))))))))
theorem sc_is_pair : FnScope ["thing", "names"] ["thing", "names"] (defScope (topS 21)) := ⟨rfl, rfl, rfl, by decide +kernel, rfl, by decide +kernel, by decide +kernel⟩
theorem qbm (T : Txt A mg base) (k : Nat) : xak A.P A.w A.K mg base (k + 1) "is_pair" 2 (w3 A) := by
 obtain ⟨f, fd, h1, h2, h3⟩ := T.f_is_pair
 exact wy (k := k + 0) (fx := [0, 1]) h1 h2 h3 sc_is_pair rfl (by decide) fun _ _ _ _ _ _ B =>
 (za (vz (bt_w (bw_or (waj (qaa (ql B (wa3 T.isi B T.z_isinstance) (xb (qa B 0) (xb (qa1 B T.z_tuple (by decide +kernel)) ye))))) (zbm (xn (c_ne B) (ql B (b_len B T.z_len) (xb (qa B 0) ye)) wa))))
 (jb (vf va1))
 qg)
 (jb (vf (yz (jaa (c_in B) (qj B (qa B 0) wa) (qa B 1)) (yz (jaa (c_in B) (qj B (qa B 0) wa) (qa B 1)) (wap (jaa (c_ne B) (qj B (qa B 0) wa) (qj B (qa B 0) wa))))))))
theorem qbj : FnScope ["part", "things", "most", "is_right", "number", "thing"] ["part", "things", "most", "is_right"] (defScope (topS 22)) := ⟨rfl, rfl, rfl, by decide +kernel, rfl, by decide +kernel, by decide +kernel⟩
theorem need_T (T : Txt A mg base) (k : Nat) : NeedT A.P A.w A.K mg base (k + 2) "need_part" (topS 22) ["part", "things", "most", "is_right", "number", "thing"] ["part", "things", "most", "is_right"] [0, 1, 2, 3] (qu A) := by
 obtain ⟨f, fd, h1, h2, h3⟩ := T.f_need_part
 exact ⟨⟨f, fd, h1, h2, h3⟩, qbj, fun _ _ _ _ _ _ _ B act hact =>
 (za (vz (waj (qaa (ql B (wa3 T.isi B T.z_isinstance) (xb (qa B 1) (xb (qa1 B T.z_tuple (by decide +kernel)) ye)))))
 (jb (xbm B (qa6 T (k + 0)) (xa (qa B 0) (xa (be_neg wa) jc))))
 qg)
 (jb (bs_for B (bi_enumX B T.z_enumerate (xa (qa B 1) jc)) (bg_tup B 2 (bgs_cons (kh B 4) (bgs_cons (kh B 5) bgs_nil)))
 (jb (vz (bt_w (bw_or (xn (c_eq B) (qa B 4) (qa B 2)) (zbm (waj (qaa (hact _ _ _ _ _ (by rfl) (by rfl) (aa_d (qa B 5) (aa_d (wbg B (qa B 1) xac (yn (qa B 4))) vg))))))))
 (jb (xbm B (qa6 T (k + 0)) (xa (qa B 0) (xa (qa B 4) jc))))
 qg)))))⟩
local macro_rules | `(tactic| walk_at "w") => `(tactic| (try simp only [PL.wp_seq, PL.wp_set, PL.ja8, PL.wbe, PL.wp_op, PL.wp_un, PL.wp_var, PL.wp_c, PL.xaw, PL.kaw, PL.yar, PL.kar, PL.zar, PL.x7, PL.xar, PL.xas, PL.zas, PL.kas, PL.xav, PL.zav, PL.xba, PL.zba, PL.yav, PL.vav, PL.was, PL.jbc, PL.zbc, PL.qat, PL.qa8, PL.yaq, PL.qa9, PL.wp_brk, PL.ya9, PL.va9, PL.wau, PL.vai, PL.y6, PL.x6, PL.kah, PL.xah, PL.yaf, PL.jag, PL.waf, List.set_cons_zero, List.set_cons_succ, List.length_cons, List.length_nil, PL.addD, PL.subD, PL.zaq, PL.mulD, PL.modD, PL.za3, PL.wp_run, List.cons_append, List.nil_append, List.replicate, List.getElem?_cons_zero, List.getElem?_cons_succ, PL.za9, PL.xag, PL.q7, PL.vas, PL.kbe, PL.vbe, PL.isB_bl, PL.qbf, PL.wp_call, PL.wac, PL.wa7, PL.wp_ud, PL.wp_um, PL.kae, PL.yae, PL.vae, PL.kaj, PL.yaj, PL.vaj, PL.qaw, PL.zaw, PL.jaw, PL.wp_cb, PL.wp_nil, PL.wa9, PL.wae, PL.kad, PL.ya7, PL.vaq, PL.wp_tup, PL.wp_lst, PL.zaa, PL.wp_and, PL.wp_or, PL.wp_not, PL.jba, PL.wp_orV, PL.yba, PL.wa8, PL.wp_ifE, PL.jar, PL.wp_m1, PL.wp_zno, PL.wp_zat, PL.wp_sl, PL.wp_sif, PL.qad, PL.wp_ext, PL.ja9, PL.j5, PL.x4, PL.yad, PL.w4, PL.za8, PL.xo, PL.yas, PL.war, PL.xau, PL.jbf, PL.jaf, PL.qaf, PL.jbi, PL.aN_eq, PL.aT_tup, PL.vaw, PL.kbh, PL.z5, PL.x5, PL.qae, PL.wad, PL.wat, PL.qau, PL.ybd, PL.yat, PL.vbf, PL.qbd, PL.lt_int, PL.lt_str, PL.le_int, PL.gt_int, PL.ge_int, PL.kbd, PL.xbd, PL.vat, PL.kat, PL.vbd, PL.vba, PL.kba, PL.sl_lst, PL.sl_tup, PL.sl_ro, PL.sl_str, PL.neg_int, PL.is_bl, PL.jah, PL.is_none, PL.qt, PL.zat, PL.none_int, PL.none_str, PL.ybc, PL.xat, PL.jat, PL.zbh, PL.xbh, PL.xae, PL.y5, PL.yau, Nat.reduceAdd, Nat.reduceSub, Nat.zero_add, Bool.not_true, Bool.not_false, Bool.false_eq_true, if_true, if_false, PL.qba, PL.waa, PL.yg, decide_eq_true_eq, PL.zbe, PL.ixw_ro, PL.qbe, PL.jbe, PL.atI_0, PL.atI_1, PL.atI_2, PL.vau, PL.kau, PL.kag, PL.dv_dic, PL.wbf, PL.ybf, PL.dvQ_dk, PL.dvQ_dt, PL.qbg, PL.dGet_k, PL.dGet_t, PL.qar, PL.waq, PL.v5, PL.zau, PL.ka8, PL.jau, PL.wp_app,  PL.putQ_k, PL.putQ_t, PL.zad, PL.jad, PL.xad, PL.qbc, PL.inlQ_l, PL.va8, List.take_succ_cons, List.take_zero, Option.map_some, Option.map_none, PL.zf, PL.zd, PL.ke, PL.jk, PL.ji, PL.zm, PL.qi, PL.qk, PL.jm, PL.wh, PL.wj, PL.yh, PL.vh, PL.qh, PL.q8]))
local macro_rules | `(tactic| walk_at "fin") => `(tactic| first | trivial | rfl | decide | (simp; done) | omega)
theorem ybm {F : PL.P Rv} {cs : List Cell} {b : Bool} (h : va3 F cs = some b) : ∃ cs', F cs = some (.ok (rvB b) cs') := by
 unfold va3 at h
 split at h
 ·rename_i b' cs' q
  cases h
  exact ⟨cs', q⟩
 ·cases h
theorem need_go {A : Ads} {part : Str} {things : List D} {most : Int} {fv : D} {act : PL.P (List PL.Arg) → PL.P Rv} {o : Option Nat}
  (hm : ∀ (i : Nat) (d : D), things[i]? = some d → (∀ k, o = some k → i < k) → (i : Int) ≠ most ∧ wp (act (uD (fVar 5) (uD (fSl (fVar 1) zNo (zAt (fVar 4))) uNil))) (fun v r => v = rvB true ∧ r = [.dat (.s (.str part)), .dat (.tup things), .dat (.s (.int most)), .dat fv, .dat (.s (.int i)), .dat d]) EF
   [.dat (.s (.str part)), .dat (.tup things), .dat (.s (.int most)), .dat fv, .dat (.s (.int i)), .dat d])
  (hk : ∀ (k : Nat) (d : D), o = some k → k < things.length ∧ (things[k]? = some d → (k : Int) ≠ most → wp (act (uD (fVar 5) (uD (fSl (fVar 1) zNo (zAt (fVar 4))) uNil))) (fun v r => v = rvB false ∧ r = [.dat (.s (.str part)), .dat (.tup things), .dat (.s (.int most)), .dat fv, .dat (.s (.int k)), .dat d]) EF
   [.dat (.s (.str part)), .dat (.tup things), .dat (.s (.int most)), .dat fv, .dat (.s (.int k)), .dat d])) :
  wp (zc A act) (fun r cs => o = none ∧ r = .dat (.s .non) ∧ cs = [.dat (.s (.str part)), .dat (.tup things), .dat (.s (.int most)), .dat fv]) (fun e cs => (∃ k : Nat, o = some k ∧ e = exNT A part k) ∧ cs = [.dat (.s (.str part)), .dat (.tup things), .dat (.s (.int most)), .dat fv]) [.dat (.s (.str part)), .dat (.tup things), .dat (.s (.int most)), .dat fv] := by
 unfold zc qu
 walk_at "w"
 simp only [PL.ka9, PL.zah]
 walk_at "w"
 simp only [PL.zah]
 refine vbn (fun i r => (∀ k, o = some k → i ≤ k) ∧ ∃ c4 c5, r = [.dat (.s (.str part)), .dat (.tup things), .dat (.s (.int most)), .dat fv, c4, c5]) ⟨fun _ _ => Nat.zero_le _, _, _, rfl⟩ (fun i d r hd hI => ?_) (fun r hI => ?_)
 ·obtain ⟨hle, c4, c5, rfl⟩ := hI
  obtain ⟨x, hx, rfl⟩ := enum_get hd
  rw [Nat.zero_add]
  have hi := (List.getElem?_eq_some_iff.mp hx).1
  by_cases hik : o = some i
  ·obtain ⟨hkl, hkw⟩ := hk i x hik
   walk_at "w"
   refine ⟨trivial, by decide, by decide, ?_⟩
   by_cases h0 : (i : Int) = most
   ·rw [show ((i : Int) == most) = true from beq_iff_eq.mpr h0]
    walk_at "w"
    first | exact ⟨⟨i, hik, rfl⟩, rfl⟩ | exact ⟨⟨i, hik, rfl⟩, trivial⟩ | exact ⟨i, hik, rfl⟩
   ·rw [show ((i : Int) == most) = false from beq_eq_false_iff_ne.mpr h0]
    walk_at "w"
    refine wp_mono (hkw hx h0) (fun v r hv => ?_) fun e r z => z.elim
    obtain ⟨rfl, rfl⟩ := hv
    walk_at "w"
    first | exact ⟨⟨i, hik, rfl⟩, rfl⟩ | exact ⟨⟨i, hik, rfl⟩, trivial⟩ | exact ⟨i, hik, rfl⟩
  ·obtain ⟨h0, h1⟩ := hm i x hx fun k hk2 => by
    have := hle k hk2
    have : i ≠ k := fun e => hik (e ▸ hk2)
    omega
   walk_at "w"
   refine ⟨trivial, by decide, by decide, ?_⟩
   rw [show ((i : Int) == most) = false from beq_eq_false_iff_ne.mpr h0]
   walk_at "w"
   refine wp_mono h1 (fun v r hv => ?_) fun e r z => z.elim
   obtain ⟨rfl, rfl⟩ := hv
   walk_at "w"
   exact ⟨fun k hk2 => by
    have := hle k hk2
    have : i ≠ k := fun e => hik (e ▸ hk2)
    omega, _, _, rfl⟩
 ·obtain ⟨hle, c4, c5, rfl⟩ := hI
  rw [PL.enum_len] at hle
  have ho : o = none := by
   cases o with
   | none => rfl
   | some k =>
    have := hle k rfl
    cases hd : things[k]? with
    | none =>
     have := (hk k (.s .non) rfl).1
     omega
    | some d =>
     have := (hk k d rfl).1
     omega
  walk_at "w"
  first | exact ⟨ho, trivial⟩ | exact ⟨ho, trivial, trivial⟩ | exact ho
theorem need_non {A : Ads} {part : Str} {th : D} {most : Int} {fv : D} {act : PL.P (List PL.Arg) → PL.P Rv} (h : isiD A.K A.cs [th, .s (.ty "tuple")] = some (rvB false)) :
  wp (zc A act) (fun _ _ => False) (fun e cs => e = exNT A part (-1) ∧ cs = [.dat (.s (.str part)), .dat th, .dat (.s (.int most)), .dat fv]) [.dat (.s (.str part)), .dat th, .dat (.s (.int most)), .dat fv] := by
 unfold zc qu
 walk_at "w"
 rw [h]
 walk_at "w"
 first | exact ⟨rfl, rfl⟩ | exact ⟨rfl, trivial⟩ | rfl | trivial
theorem ka5 {ex : Str → Int → Exn} {K : PySem.W.Frag} {cs : List Addr} {G : D → List D → Option Bool} {ds : List D} {r : Option Exn} (h : npX ex K cs G ds = some r) :
  (∃ (p : Str) (things : List D) (most : Int) (o : Option Nat), ds = [.s (.str p), .tup things, .s (.int most)] ∧ zal G most things things.length = some o ∧ r = o.map fun n : Nat => ex p n) ∨
  (∃ (p : Str) (th : D) (most : Int), ds = [.s (.str p), th, .s (.int most)] ∧ isiD K cs [th, .s (.ty "tuple")] = some (rvB false) ∧ r = some (ex p (-1))) := by
 unfold npX at h
 split at h
 ·rename_i p things most
  split at h
  ·rename_i q
   cases h
   exact .inl ⟨_, _, _, none, rfl, q, rfl⟩
  ·rename_i n q
   cases h
   exact .inl ⟨_, _, _, some n, rfl, q, rfl⟩
  ·cases h
 ·rename_i p th most hne
  split at h
  ·rename_i q
   cases h
   exact .inr ⟨_, _, _, rfl, q, rfl⟩
  ·cases h
 ·cases h
theorem wbc {f : PL.P Rv} {cs : List Cell} {r : Option Exn} {QE : Exn → Prop} (h : wp f (fun v r' => r = none ∧ v = .dat (.s .non) ∧ r' = cs) (fun e r' => QE e ∧ r' = cs) cs) (hq : ∀ e, QE e → r = some e) : f cs = some (xay cs r) := by
 rcases wp_both h with ⟨a, r', h1, h2, h3, h4⟩ | ⟨e, r', h1, h2, h3⟩
 ·rw [h1, h2, h3, h4]; rfl
 ·rw [h1, h3, hq e h2]; rfl
theorem need_tup {A : Ads} {G : D → List D → Option Bool} {act : PL.P (List PL.Arg) → PL.P Rv} {p : Str} {things : List D} {most : Int} {fv : D} {o : Option Nat} (hg : zal G most things things.length = some o)
  (ha : ∀ (i : Nat) (d : D) (b : Bool), things[i]? = some d → G d (things.take i) = some b → wp (act (uD (fVar 5) (uD (fSl (fVar 1) zNo (zAt (fVar 4))) uNil))) (fun v r => v = rvB b ∧ r = [.dat (.s (.str p)), .dat (.tup things), .dat (.s (.int most)), .dat fv, .dat (.s (.int i)), .dat d]) EF
   [.dat (.s (.str p)), .dat (.tup things), .dat (.s (.int most)), .dat fv, .dat (.s (.int i)), .dat d]) :
  zc A act [.dat (.s (.str p)), .dat (.tup things), .dat (.s (.int most)), .dat fv] = some (xay [.dat (.s (.str p)), .dat (.tup things), .dat (.s (.int most)), .dat fv] (o.map fun n : Nat => exNT A p n)) := by
 refine wbc (QE := fun e => ∃ k : Nat, o = some k ∧ e = exNT A p k) (wp_mono (need_go (o := o) (fun i d hd hlt => ?_) fun k d ho => ?_) (fun v r h => ⟨by rw [h.1]; rfl, h.2.1, h.2.2⟩) fun e r h => h) fun e he => ?_
 ·have hi := (List.getElem?_eq_some_iff.mp hd).1
  have hh : (i : Int) ≠ most ∧ G d (things.take i) = some true := by
   cases o with
   | none => exact za5 hg i d hi hd
   | some k => exact za5 (ja5 hg).2.1 i d (hlt k rfl) hd
  exact ⟨hh.1, ha i d true hd hh.2⟩
 ·subst ho
  obtain ⟨h1, h2, h3⟩ := ja5 hg
  refine ⟨h1, fun hd hne => ?_⟩
  rcases h3 with h3 | ⟨_, d', hd', h3⟩
  ·exact absurd h3 hne
  ·rw [hd] at hd'
   cases hd'
   exact ha k d false hd h3
 ·obtain ⟨k, rfl, rfl⟩ := he
  rfl
theorem need_K {A : Ads} {F : PL.P Rv} {g : Addr} {ds : List D} {r : Option Exn} (h : npX (exNT A) A.K A.cs (fun d ahead => va3 F [.dat d, .dat (.tup ahead)]) ds = some r) : ds.length = 3 ∧ zc A (xaq g 2 F 3) ((ds ++ [D.s (.ref g)]).map .dat) = some (xay ((ds ++ [D.s (.ref g)]).map .dat) r) := by
 rcases ka5 h with ⟨p, things, most, o, rfl, hg, rfl⟩ | ⟨p, th, most, rfl, hi, rfl⟩
 ·refine ⟨rfl, need_tup hg fun i d b hd hb => ?_⟩
  obtain ⟨cs, hF⟩ := ybm hb
  rw [PL.wp_actK]
  walk_at "w"
  rw [jbm (Nat.le_of_lt (List.getElem?_eq_some_iff.mp hd).1)]
  exact ⟨trivial, by simp, wp_eq hF ⟨rfl, by match cs with
   | [] => rfl
   | [_] => rfl
   | _ :: _ :: _ => rfl⟩⟩
 ·exact ⟨rfl, wbc (QE := fun e => e = exNT A p (-1)) (wp_mono (need_non hi) (fun v r h => h.elim) fun e r h => h) fun e he => by rw [he]⟩
theorem need_L {A : Ads} {F : PL.P Rv} {nm : D} {f : Addr} {φ : Heap → Prop} {z : V} {ds : List D} {r : Option Exn} (h : npX (exNT A) A.K A.cs (fun d ahead => va3 F [.dat d, .dat (.tup ahead), .dat nm]) ds = some r) : ds.length = 3 ∧ zc A (fAct f φ [z] 2 1 F 3) ((ds ++ [D.lam f φ [z] [nm]]).map .dat) = some (xay ((ds ++ [D.lam f φ [z] [nm]]).map .dat) r) := by
 rcases ka5 h with ⟨p, things, most, o, rfl, hg, rfl⟩ | ⟨p, th, most, rfl, hi, rfl⟩
 ·refine ⟨rfl, need_tup hg fun i d b hd hb => ?_⟩
  obtain ⟨cs, hF⟩ := ybm hb
  rw [PL.wp_act (ks := [nm]) (m := 1) rfl rfl]
  simp only [List.map_cons, List.map_nil]
  walk_at "w"
  rw [jbm (Nat.le_of_lt (List.getElem?_eq_some_iff.mp hd).1)]
  refine ⟨trivial, by simp, wp_eq hF ⟨rfl, ?_⟩⟩
  match cs with
  | [] => rfl
  | [_] => rfl
  | [_, _] => rfl
  | _ :: _ :: _ :: _ => rfl
 ·exact ⟨rfl, wbc (QE := fun e => e = exNT A p (-1)) (wp_mono (need_non hi) (fun v r h => h.elim) fun e r h => h) fun e he => by rw [he]⟩
theorem xbb : FnScope ["self", "wishes", "places", "bars", "needs", "names", "wish"] ["self", "wishes", "places", "bars", "needs"] (defScope (clsS 23 0)) := ⟨rfl, rfl, rfl, by decide +kernel, rfl, by decide +kernel, by decide +kernel⟩
theorem jbl {g : Addr} {ds : List D} {r : Option Exn} (h : zj A ds = some r) : ds.length = 3 ∧ zc A (xaq g 2 (w0 A) 3) ((ds ++ [D.s (.ref g)]).map .dat) = some (xay ((ds ++ [D.s (.ref g)]).map .dat) r) := need_K h
theorem zam {f : Addr} {φ : Heap → Prop} {z : V} {d : D} {ds : List D} {r : Option Exn} (h : qd A d ds = some r) : ds.length = 3 ∧ zc A (fAct f φ [z] 2 1 (zq A) 3) ((ds ++ [D.lam f φ [z] [d]]).map .dat) = some (xay ((ds ++ [D.lam f φ [z] [d]]).map .dat) r) := need_L h
theorem jam {f : Addr} {φ : Heap → Prop} {z : V} {d : D} {ds : List D} {r : Option Exn} (h : wc A d ds = some r) : ds.length = 3 ∧ zc A (fAct f φ [z] 2 1 (jq A) 3) ((ds ++ [D.lam f φ [z] [d]]).map .dat) = some (xay ((ds ++ [D.lam f φ [z] [d]]).map .dat) r) := need_L h
theorem qam {f : Addr} {φ : Heap → Prop} {z : V} {d : D} {ds : List D} {r : Option Exn} (h : yc A d ds = some r) : ds.length = 3 ∧ zc A (fAct f φ [z] 2 1 (qq A) 3) ((ds ++ [D.lam f φ [z] [d]]).map .dat) = some (xay ((ds ++ [D.lam f φ [z] [d]]).map .dat) r) := need_L h
theorem xap (T : Txt A mg base) (k : Nat) : ka7 A.P A.w A.K mg base (k + 6) "Table" 4 A.c_Table (yk A) := by
 obtain ⟨f, fd, h1, h0, h2, h3⟩ := T.f_Table_init
 exact make_okC (k := k + 5) (fx := [0, 1, 2, 3, 4]) h0 h2 T.k_Table h3 xbb rfl (by decide) fun _ _ _ _ _ B =>
 (za (wa0 (be_needK B (need_T T (k + 2)) rfl (by decide) rfl (.inl rfl) (d_is_wish T (k + 1)) (zj A) (fun g ds r h => jbl h) jo (ja1 (qa B 1)) (jak B T.c_MOST_WISHES)))
 (za (we B 5 (ya3 B [("wish", 6)] (bi_X B (ja1 (qa B 1))) (kh (B.blk _) 6) yt (kg (B.blk _) T.na_name (qa (B.blk _) 6))))
 (za (wa0 (qbh B (kl := k + 3) (Nl := ["thing", "ahead", "names", "place"]) (psl := ["thing", "ahead"]) (y0 := "names") (j := 5) rfl wbd (fun _ => rfl) T.tb T.tabP (need_T T (k + 2)) rfl (by decide) rfl (.inl rfl) rfl (by decide) (NdefX.nscope_by (by decide +kernel)) rfl (by decide) (by decide +kernel) (by decide +kernel) rfl (fun _ _ _ _ _ us hl => match us, hl with | [_, _], _ => rfl) rfl (fun _ _ _ _ _ _ _ _ B =>
 (wd B (d_is_place T (k + 0)) (aa_d (qa B 0) (aa_d (vk B (qa B 2) (ya3 B [("place", 3)] (bi_X B (qa B 1)) (kh (B.blk _) 3) yt (kg (B.blk _) T.na_name (qa (B.blk _) 3)))) vg)))) (qd A) (fun f φ z d ds r h => zam h) jo (ja1 (qa B 2)) (jak B T.c_MOST_OTHERS) rfl rfl rfl rfl rfl))
 (za (wa0 (qbh B (kl := k + 3) (Nl := ["thing", "ahead", "names"]) (psl := ["thing", "ahead"]) (y0 := "names") (j := 5) rfl wbd (fun _ => rfl) T.tb T.tabP (need_T T (k + 2)) rfl (by decide) rfl (.inl rfl) rfl (by decide) (NdefX.nscope_by (by decide +kernel)) rfl (by decide) (by decide +kernel) (by decide +kernel) rfl (fun _ _ _ _ _ us hl => match us, hl with | [_, _], _ => rfl) rfl (fun _ _ _ _ _ _ _ _ B =>
 (yz (wd B (qbm T (k + 2)) (aa_d (qa B 0) (aa_d (qa B 2) vg))) (yz (jaa (kav B) (qa B 0) (qa B 1)) (wap (jaa (kav B) (be_revT B (qa B 0)) (qa B 1)))))) (wc A) (fun f φ z d ds r h => jam h) jo (ja1 (qa B 3)) (jak B T.c_MOST_OTHERS) rfl rfl rfl rfl rfl))
 (za (wa0 (qbh B (kl := k + 3) (Nl := ["thing", "ahead", "names"]) (psl := ["thing", "ahead"]) (y0 := "names") (j := 5) rfl wbd (fun _ => rfl) T.tb T.tabP (need_T T (k + 2)) rfl (by decide) rfl (.inl rfl) rfl (by decide) (NdefX.nscope_by (by decide +kernel)) rfl (by decide) (by decide +kernel) (by decide +kernel) rfl (fun _ _ _ _ _ us hl => match us, hl with | [_, _], _ => rfl) rfl (fun _ _ _ _ _ _ _ _ B =>
 (yz (wd B (qbm T (k + 2)) (aa_d (qa B 0) (aa_d (qa B 2) vg))) (wap (jaa (kav B) (qa B 0) (qa B 1))))) (yc A) (fun f φ z d ds r h => qam h) jo (ja1 (qa B 4)) (jak B T.c_MOST_OTHERS) rfl rfl rfl rfl rfl))
 (za (ve B 0 T.na_wishes (qa B 1))
 (za (ve B 0 T.na_places (qa B 2))
 (za (ve B 0 T.na_bars (qa B 3))
 (jb (ve B 0 T.na_needs (qa B 4)))))))))))
theorem sc_l_mixed : FnScope ["_law_cell", "_law_k", "_law_mix"] ["_law_cell", "_law_k"] (defScope (topS 25)) := ⟨rfl, rfl, rfl, by decide +kernel, rfl, by decide +kernel, by decide +kernel⟩
theorem wbl (T : Txt A mg base) (k : Nat) : xak A.P A.w A.K mg base (k + 1) "_law_mixed" 2 (j0 A) := by
 obtain ⟨f, fd, h1, h2, h3⟩ := T.f_l_mixed
 exact wy (k := k + 0) (fx := [0, 1]) h1 h2 h3 sc_l_mixed rfl (by decide) fun _ _ _ _ _ _ B =>
 (za (we B 2 (ya6 B (va6 B (vk B (vk B (qa B 0) (va6 B wa (qa B 1))) wa) wa) wa))
 (jb (vf (ya6 B (vk B (va6 B (qa B 2) (qa B 2)) (va6 B wa (qa B 2))) wa))))
theorem sc_l_draw : FnScope ["_law_script", "_law_k", "_law_count", "_law_cell", "_law_digits"] ["_law_script", "_law_k", "_law_count"] (defScope (topS 26)) := ⟨rfl, rfl, rfl, by decide +kernel, rfl, by decide +kernel, by decide +kernel⟩
theorem d_l_draw (T : Txt A mg base) (k : Nat) : xak A.P A.w A.K mg base (k + 2) "_law_draw" 3 (waw A) := by
 obtain ⟨f, fd, h1, h2, h3⟩ := T.f_l_draw
 exact wy (k := k + 1) (fx := [0, 1, 2]) h1 h2 h3 sc_l_draw rfl (by decide) fun _ _ _ _ _ _ B =>
 (za (we B 3 wa)
 (za (vz (xn (c_lt B) (qa B 1) (ql B (b_len B T.z_len) (xb (qa B 0) ye)))
 (jb (we B 3 (qj B (qa B 0) (qa B 1))))
 qg)
 (za (we B 4 wa)
 (za (vz (xn (c_eq B) (ya6 B (qa B 3) wa) wa)
 (jb (we B 4 (qbr B (ql B (b_abs B T.z_abs) (xb (qa B 3) ye)) wa)))
 qg)
 (jb (vf (qak (xa (qa B 4) (xa (wd B (wbl T (k + 0)) (aa_d (qa B 3) (aa_d (vk B wa (qa B 1)) vg))) (xa (qa B 2) jc))))))))))
theorem sc_l_next : FnScope ["_law_draw_here", "_law_size", "_law_digit"] ["_law_draw_here", "_law_size"] (defScope (topS 27)) := ⟨rfl, rfl, rfl, by decide +kernel, rfl, by decide +kernel, by decide +kernel⟩
theorem yai (T : Txt A mg base) (k : Nat) : xak A.P A.w A.K mg base (k + 2) "_law_next" 2 (zp A) := by
 obtain ⟨f, fd, h1, h2, h3⟩ := T.f_l_next
 exact wy (k := k + 1) (fx := [0, 1]) h1 h2 h3 sc_l_next rfl (by decide) fun _ _ _ _ _ _ B =>
 (za (vz (xn (c_gt B) (qj B (qa B 0) wa) wa)
 (za (we B 2 (ya6 B (qj B (qa B 0) wa) (qa B 1)))
 (za (ybg B 0 wa (qbr B (qj B (qa B 0) wa) (qa B 1)))
 (jb (vf (qa B 2)))))
 qg)
 (za (bs_incL B 0 2 1)
 (jb (vf (ya6 B (qbr B (wd B (wbl T (k + 0)) (aa_d (qj B (qa B 0) wa) (aa_d (qj B (qa B 0) wa) vg))) wa) (qa B 1))))))
theorem sc_l_pick : FnScope ["_law_draw_here", "_law_some"] ["_law_draw_here", "_law_some"] (defScope (topS 28)) := ⟨rfl, rfl, rfl, by decide +kernel, rfl, by decide +kernel, by decide +kernel⟩
theorem d_l_pick (T : Txt A mg base) (k : Nat) : xak A.P A.w A.K mg base (k + 3) "_law_pick" 2 (yaw A) := by
 obtain ⟨f, fd, h1, h2, h3⟩ := T.f_l_pick
 exact wy (k := k + 2) (fx := [0, 1]) h1 h2 h3 sc_l_pick rfl (by decide) fun _ _ _ _ _ _ B =>
 (jb (vf (qj B (qa B 1) (wd B (yai T (k + 0)) (aa_m B 0 (aa_d (ql B (b_len B T.z_len) (xb (qa B 1) ye)) vg))))))
theorem sc_l_at : FnScope ["_law_work", "_law_error", "e"] ["_law_work"] (defScope (topS 29)) := ⟨rfl, rfl, rfl, by decide +kernel, rfl, by decide +kernel, by decide +kernel⟩
theorem d_l_at (T : Txt A mg base) (k : Nat) : xak A.P A.w A.K mg base (k + 8) "_law_at" 1 (za2 A) := by
 obtain ⟨f, fd, h1, h2, h3⟩ := T.f_l_at
 exact wy (k := k + 7) (fx := [0]) h1 h2 h3 sc_l_at rfl (by decide) fun _ _ _ _ _ _ B =>
 (za (we B 1 za1)
 (za (bs_try B T.xcs T.k_WordError 2 1 (fun W1 => (jb (wa0 (ka1 (B.tr W1) (xap T (k + 0)) (xa (qj (B.tr W1) (qa (B.tr W1) 0) wa) (xa (qj (B.tr W1) (qa (B.tr W1) 0) wa) (xa (qj (B.tr W1) (qa (B.tr W1) 0) wa) (xa (qj (B.tr W1) (qa (B.tr W1) 0) wa) jc)))))))))
 (za (vz (xn (c_is B) (qa B 1) za1)
 (jb (vf za1))
 qg)
 (jb (vf (be_if (qaa (ql B (wa3 T.isi B T.z_isinstance) (xb (qa B 1) (xb (qbn B T.k_NoTable) ye)))) (jr (xa (be_xfld B T.xfd_part (qa B 1)) (xa (be_xfld B T.xfd_number (qa B 1)) jc))) jo))))))
theorem zbb : FnScope ["_law_names", "_law_found", "_law_one", "_law_other"] ["_law_names"] (defScope (topS 30)) := ⟨rfl, rfl, rfl, by decide +kernel, rfl, by decide +kernel, by decide +kernel⟩
theorem ybl (T : Txt A mg base) (k : Nat) : xak A.P A.w A.K mg base (k + 1) "_law_pairs_of" 1 (qp A) := by
 obtain ⟨f, fd, h1, h2, h3⟩ := T.f_l_pairs_of
 exact wy (k := k + 0) (fx := [0]) h1 h2 h3 zbb rfl (by decide) fun _ _ _ _ _ _ B =>
 (za (we B 1 (qak jc))
 (za (bs_for B (bi_X B (qa B 0)) (kh B 2)
 (jb (we B 1 (vk B (qa B 1) (ya3 B [("_law_other", 3)] (bi_X B (qa B 0)) (kh (B.blk _) 3) (bts_one (xn (c_lt (B.blk _)) (qa (B.blk _) 2) (qa (B.blk _) 3))) (jr (xa (qa (B.blk _) 2) (xa (qa (B.blk _) 3) jc))))))))
 (jb (vf (qa B 1)))))
theorem sc_law : FnScope ["_law_script", "_law_letters", "_law_k", "_law_draw_here", "_law_size", "_law_shift", "_law_names", "_law_wishes", "_law_places", "_law_pairs", "_law_turn", "_law_bars", "_law_needs", "_law_table", "_law_more", "_law_free", "_law_part", "_law_parts", "_law_word", "_law_at_here", "_law_j", "_law_name", "_law_pair"] ["_law_script"] (defScope (topS 31)) := ⟨rfl, rfl, rfl, by decide +kernel, rfl, by decide +kernel, by decide +kernel⟩
theorem fn_law (T : Txt A mg base) (k : Nat) {f : Addr} {fd : FuncData} (h1 : Fun A.K "law" "law" (topS 31) f fd) : FnOk A.P A.w A.K mg base (L2.CX A.P A.w) (k + 9) f fd ["_law_script"] (spF A.K 1 (F_law A)) :=
 def_fn (k := k + 8) (fx := [0]) h1 sc_law rfl (by decide) fun _ _ _ _ _ _ B =>
 (za (we B 1 jo)
 (za (bs_for B (bi_rng1 B T.z_range (xb (ql B (b_max B T.z_max) (xb wa (xb (ql B (b_min B T.z_min) (xb wa (xb (ql B (b_len B T.z_len) (xb (qa B 0) ye)) ye))) ye))) ye)) (kh B 2)
 (za (bs_setM B 3 (wd B (d_l_draw T (k + 6)) (aa_d (qa B 0) (aa_d (qa B 2) (aa_d wa vg)))))
 (za (we B 4 (wd B (d_l_pick T (k + 5)) (aa_m B 3 (aa_d (qak (xa wa (xa wa (xa wa jc)))) vg))))
 (za (we B 5 (wd B (yai T (k + 6)) (aa_m B 3 (aa_d wa vg))))
 (za (bs_lc B 6 [("_law_j", 20)] (bi_rng1 B T.z_range (xb wa ye)) (kh (B.blk _) 20) yt (va6 (B.blk _) (qj (B.blk _) (qa (B.blk _) 1) (ya6 (B.blk _) (vk (B.blk _) (qa (B.blk _) 5) (va6 (B.blk _) wa (qa (B.blk _) 20))) wa)) (qa (B.blk _) 4)))
 (za (we B 7 (ql B (jbh B T.z_tuple) (xb (ya3 B [("_law_name", 21)] (bi_X B (wbg B (qa B 6) xac (yn wa))) (kh (B.blk _) 21) yt (be_makeD (B.blk _) (jbg T (k + 6)) (xa (qa (B.blk _) 21) (xa (qj (B.blk _) (qa (B.blk _) 21) wa) (xa (be_bare (B.blk _) T.b_AnyWord T.k_AnyWord) jc))))) ye)))
 (za (we B 8 (ql B (jbh B T.z_tuple) (xb (ya3 B [("_law_name", 21)] (bi_X B (wbg B (qa B 6) (yn wa) (yn wa))) (kh (B.blk _) 21) yt (ka1 (B.blk _) (kap T (k + 6)) (xa (qa (B.blk _) 21) (xa (ka1 (B.blk _) (xbg T (k + 6)) (xa jo jc)) (xa jo jc))))) ye)))
 (za (we B 9 (wd B (ybl T (k + 7)) (aa_d (wbg B (qa B 6) xac (yn wa)) vg)))
 (za (we B 10 (wd B (yai T (k + 6)) (aa_m B 3 (aa_d wa vg))))
 (za (we B 11 (ql B (jbh B T.z_tuple) (xb (wbg B (qa B 9) (yn (qa B 10)) (yn (vk B (qa B 10) wa))) ye)))
 (za (we B 12 (ql B (jbh B T.z_tuple) (xb (vk B (ya3 B [("_law_pair", 22)] (bi_X B (wbg B (qa B 9) xac (yn wa))) (kh (B.blk _) 22) yt (be_revT (B.blk _) (qa (B.blk _) 22))) (wbg B (qa B 9) xac (yn wa))) ye)))
 (za (vz (xn (c_isNot B) (wd B (d_l_at T (k + 0)) (aa_d (qak (xa (qa B 7) (xa (qa B 8) (xa (qa B 11) (xa (qa B 12) jc))))) vg)) za1)
 (jb (vf va1))
 qg)
 (bss_lab2 (labs_tup (by decide)) (we B 13 (ka1 B (xap T (k + 1)) (xa (qa B 7) (xa (qa B 8) (xa (qa B 11) (xa (qa B 12) jc))))))
 (vz (xn (c_neId B) (jr (xa (kg B T.na_wishes (qa B 13)) (xa (kg B T.na_places (qa B 13)) (xa (kg B T.na_bars (qa B 13)) (xa (kg B T.na_needs (qa B 13)) jc))))) (jr (xa (qa B 7) (xa (qa B 8) (xa (qa B 11) (xa (qa B 12) jc))))))
 (jb (vf va1))
 qg)
 (za (we B 14 (qak (xa (vk B (qa B 7) (jr (xa (be_makeD B (zbg T (k + 6)) (xa (qj B (qa B 6) wa) jc)) jc))) (xa (vk B (qa B 8) (jr (xa (ka1 B (kap T (k + 6)) (xa (qj B (qa B 6) wa) (xa (be_bare B T.b_AnyWord T.k_AnyWord) (xa jo jc)))) jc))) jc))))
 (za (we B 15 (qj B (ya3 B [("_law_pair", 22)] (bi_X B (qa B 9)) (kh (B.blk _) 22) (bts_one (xn (kav (B.blk _)) (qa (B.blk _) 22) (qa (B.blk _) 11))) (qa (B.blk _) 22)) wa))
 (za (we B 14 (vk B (qa B 14) (qak (xa (vk B (qa B 11) (jr (xa (qa B 15) jc))) (xa (vk B (qa B 12) (jr (xa (qj B (qa B 9) wa) jc))) jc)))))
 (za (we B 16 (wd B (yai T (k + 6)) (aa_m B 3 (aa_d wa vg))))
 (za (bs_setM B 17 (qak (xa (qa B 7) (xa (qa B 8) (xa (qa B 11) (xa (qa B 12) jc))))))
 (za (ybg B 17 (qa B 16) (qj B (qa B 14) (qa B 16)))
 (za (we B 18 (qj B (qak (xa jo (xa jo (xa jo (xa jo jc))))) (qa B 16)))
 (za (vz (xn (c_ne B) (wd B (d_l_at T (k + 0)) (aa_m B 17 vg)) (jr (xa (qa B 18) (xa (qj B (qak (xa wa (xa wa (xa wa (xa wa jc))))) (qa B 16)) jc))))
 (jb (vf va1))
 qg)
 (za (we B 19 (wd B (yai T (k + 6)) (aa_m B 3 (aa_d (ql B (b_len B T.z_len) (xb (qj B (qa B 14) (qa B 16)) ye)) vg))))
 (za (ybg B 17 (qa B 16) (vk B (vk B (wbg B (qj B (qa B 14) (qa B 16)) xac (yn (qa B 19))) (jr (xa za1 jc))) (wbg B (qj B (qa B 14) (qa B 16)) (yn (vk B (qa B 19) wa)) xac)))
 (za (vz (xn (c_ne B) (wd B (d_l_at T (k + 0)) (aa_m B 17 vg)) (jr (xa (qa B 18) (xa (qa B 19) jc))))
 (jb (vf va1))
 qg)
 (za (ybg B 17 (qa B 16) (ql B (b_list B T.z_list) (xb (qj B (qa B 14) (qa B 16)) ye)))
 (jb (vz (xn (c_ne B) (wd B (d_l_at T (k + 0)) (aa_m B 17 vg)) (jr (xa (qa B 18) (xa (be_neg wa) jc))))
 (jb (vf va1))
 qg)))))))))))))))))))))))))))
 (jb (vf va1))))
end
section
variable {A : Ads} {Q : Rv → Prop} {QR : Rv → En → Prop} {E : Exn → En → Prop} {r : En} {ga : PL.P (List PL.Arg)} {fs : List (Str × D)} {d : D}
theorem yah {x_wishes : D} {x_places : D} {x_bars : D} {x_needs : D} : wpO (fldD (qac A) "bars" (qay A x_wishes x_places x_bars x_needs)) Q ↔ Q (.dat x_bars) := kj (by simp [qac]) rfl
theorem v9 : (qac A).contains A.c_Table = true := by simp [qac]
theorem xao {x_name : D} {x_letter : D} {x_kind : D} {x_may : D} {x_many : D} {x_must : D} : wpO (fldD (xi A) "kind" (jj A x_name x_letter x_kind x_may x_many x_must)) Q ↔ Q (.dat x_kind) := kj (by simp [xi]) rfl
theorem xaj : (xi A).contains A.c_Wish = true := by simp [xi]
theorem qai {x_name : D} {x_kind : D} {x_often : D} : wpO (fldD (xi A) "kind" (jab A x_name x_kind x_often)) Q ↔ Q (.dat x_kind) := kj (by simp [xi]) rfl
theorem w9 : (xi A).contains A.c_Place = true := by simp [xi]
theorem k8 {x_name : D} {x_letter : D} {x_kind : D} {x_may : D} {x_many : D} {x_must : D} : wpO (fldD (jh A) "letter" (jj A x_name x_letter x_kind x_may x_many x_must)) Q ↔ Q (.dat x_letter) := kj (by simp [jh]) rfl
theorem qz : (jh A).contains A.c_Wish = true := by simp [jh]
theorem zao {x_name : D} {x_letter : D} {x_kind : D} {x_may : D} {x_many : D} {x_must : D} : wpO (fldD (wab A) "many" (jj A x_name x_letter x_kind x_may x_many x_must)) Q ↔ Q (.dat x_many) := kj (by simp [wab]) rfl
theorem zaj : (wab A).contains A.c_Wish = true := by simp [wab]
theorem vaz {x_name : D} {x_letter : D} {x_kind : D} {x_may : D} {x_many : D} {x_must : D} : wpO (fldD (vap A) "may" (jj A x_name x_letter x_kind x_may x_many x_must)) Q ↔ Q (.dat x_may) := kj (by simp [vap]) rfl
theorem yap : (vap A).contains A.c_Wish = true := by simp [vap]
theorem jao {x_name : D} {x_letter : D} {x_kind : D} {x_may : D} {x_many : D} {x_must : D} : wpO (fldD (yab A) "must" (jj A x_name x_letter x_kind x_may x_many x_must)) Q ↔ Q (.dat x_must) := kj (by simp [yab]) rfl
theorem jaj : (yab A).contains A.c_Wish = true := by simp [yab]
theorem qao {x_name : D} {x_letter : D} {x_kind : D} {x_may : D} {x_many : D} {x_must : D} : wpO (fldD (yf A) "name" (jj A x_name x_letter x_kind x_may x_many x_must)) Q ↔ Q (.dat x_name) := kj (by simp [yf]) rfl
theorem qaj : (yf A).contains A.c_Wish = true := by simp [yf]
theorem wah {x_name : D} {x_kind : D} {x_often : D} : wpO (fldD (yf A) "name" (jab A x_name x_kind x_often)) Q ↔ Q (.dat x_name) := kj (by simp [yf]) rfl
theorem y9 : (yf A).contains A.c_Place = true := by simp [yf]
theorem v8 {x_wishes : D} {x_places : D} {x_bars : D} {x_needs : D} : wpO (fldD (vt A) "needs" (qay A x_wishes x_places x_bars x_needs)) Q ↔ Q (.dat x_needs) := kj (by simp [vt]) rfl
theorem jz : (vt A).contains A.c_Table = true := by simp [vt]
theorem y8 {x_name : D} {x_kind : D} {x_often : D} : wpO (fldD (wo A) "often" (jab A x_name x_kind x_often)) Q ↔ Q (.dat x_often) := kj (by simp [wo]) rfl
theorem zz : (wo A).contains A.c_Place = true := by simp [wo]
theorem zy {x_wishes : D} {x_places : D} {x_bars : D} {x_needs : D} : wpO (fldD (jn A) "places" (qay A x_wishes x_places x_bars x_needs)) Q ↔ Q (.dat x_places) := kj (by simp [jn]) rfl
theorem yu : (jn A).contains A.c_Table = true := by simp [jn]
theorem wu : (jav A).contains A.c_Begins = true := by simp [jav]
theorem jy {x_wishes : D} {x_places : D} {x_bars : D} {x_needs : D} : wpO (fldD (wm A) "wishes" (qay A x_wishes x_places x_bars x_needs)) Q ↔ Q (.dat x_wishes) := kj (by simp [wm]) rfl
theorem ku : (wm A).contains A.c_Table = true := by simp [wm]
theorem ybq : A.cs.contains A.c_AnyWord = true := by simp [Ads.cs]
theorem con_Begins : A.cs.contains A.c_Begins = true := by simp [Ads.cs]
theorem vbg : A.cs.contains A.c_Wish = true := by simp [Ads.cs]
theorem va0 : A.cs.contains A.c_Place = true := by simp [Ads.cs]
theorem xf : isiD A.K A.cs [.obj A.c_AnyWord fs, .s (.ref A.c_Kind)] = some (rvB true) := kal ybq A.kit_AnyWord_Kind
theorem km : isiD A.K A.cs [.obj A.c_Begins fs, .s (.ref A.c_Kind)] = some (rvB true) := kal con_Begins A.kit_Begins_Kind
theorem xj : isiD A.K A.cs [.s .non, .s (.ref A.c_Kind)] = some (rvB false) := ze rfl rfl A.kit_NoneType_Kind
theorem vr {z : Bool} : isiD A.K A.cs [.s (.bl z), .s (.ref A.c_Kind)] = some (rvB false) := ze rfl rfl A.kit_bool_Kind
theorem vx {z : Int} : isiD A.K A.cs [.s (.int z), .s (.ref A.c_Kind)] = some (rvB false) := ze rfl rfl A.kit_int_Kind
theorem kx {z : Str} : isiD A.K A.cs [.s (.str z), .s (.ref A.c_Kind)] = some (rvB false) := ze rfl rfl A.kit_str_Kind
theorem vp {z : List D} : isiD A.K A.cs [.tup z, .s (.ref A.c_Kind)] = some (rvB false) := ze rfl rfl A.kit_tuple_Kind
theorem qah : isiD A.K A.cs [.obj A.c_Wish fs, .s (.ref A.c_Wish)] = some (rvB true) := kal vbg A.kit_Wish_Wish
theorem x8 : isiD A.K A.cs [.obj A.c_Place fs, .s (.ref A.c_Wish)] = some (rvB false) := kal va0 A.kit_Place_Wish
theorem wq : isiD A.K A.cs [.s .non, .s (.ref A.c_Wish)] = some (rvB false) := ze rfl rfl A.kit_NoneType_Wish
theorem yan {z : Str} : isiD A.K A.cs [.s (.str z), .s (.ref A.c_Wish)] = some (rvB false) := ze rfl rfl A.kit_str_Wish
theorem y7 {z : List D} : isiD A.K A.cs [.tup z, .s (.ref A.c_Wish)] = some (rvB false) := ze rfl rfl A.kit_tuple_Wish
theorem wag {z : List D} : isiD A.K A.cs [.lst z, .s (.ref A.c_Wish)] = some (rvB false) := ze rfl rfl A.kit_list_Wish
theorem z8 : isiD A.K A.cs [.obj A.c_Wish fs, .s (.ref A.c_Place)] = some (rvB false) := kal vbg A.kit_Wish_Place
theorem wx : isiD A.K A.cs [.obj A.c_Place fs, .s (.ref A.c_Place)] = some (rvB true) := kal va0 A.kit_Place_Place
theorem vo : isiD A.K A.cs [.s .non, .s (.ref A.c_Place)] = some (rvB false) := ze rfl rfl A.kit_NoneType_Place
theorem yag {z : Str} : isiD A.K A.cs [.s (.str z), .s (.ref A.c_Place)] = some (rvB false) := ze rfl rfl A.kit_str_Place
theorem zx {z : List D} : isiD A.K A.cs [.tup z, .s (.ref A.c_Place)] = some (rvB false) := ze rfl rfl A.kit_tuple_Place
theorem w7 {z : List D} : isiD A.K A.cs [.lst z, .s (.ref A.c_Place)] = some (rvB false) := ze rfl rfl A.kit_list_Place
theorem j8 : isiD A.K A.cs [.obj A.c_Wish fs, .s (.ty "tuple")] = some (rvB false) := isi_objT vbg A.kit_Wish_tuple
theorem yx : isiD A.K A.cs [.obj A.c_Place fs, .s (.ty "tuple")] = some (rvB false) := isi_objT va0 A.kit_Place_tuple
theorem xm {t : Bool} : isiD A.K A.cs [.exc A.c_NoTable t fs, .s (.ref A.c_NoTable)] = some (rvB true) := isi_exc A.kit_NoTable_NoTable
theorem zo {x_part : D} {x_number : D} : wpO (va2 (yac A) "number" (.exc A.c_NoTable true [("number", x_number), ("part", x_part)])) Q ↔ Q (.dat x_number) := xfld_hit (by simp [yac]) rfl
theorem zu {x_part : D} {x_number : D} : wpO (va2 (va7 A) "part" (.exc A.c_NoTable true [("number", x_number), ("part", x_part)])) Q ↔ Q (.dat x_part) := xfld_hit (by simp [va7]) rfl
theorem yj {i j : Nat} {QF : Fl → En → Prop} {fz : Option (List (Str × D))} : tryQ A.K A.c_WordError A.xs i j QF E ⟨A.c_NoTable, fz⟩ r ↔ (i < r.length ∧ j < r.length) ∧ QF .next (((r.set i (.dat (.exc A.c_NoTable fz.isSome (fz.getD [])))).set j (.dat (.exc A.c_NoTable fz.isSome (fz.getD [])))).set i .no) := tryQ_hit A.exm_NoTable_WordError (by simp [Ads.xs])
end
theorem kai : (("bars" : Str) = "needs") = False := eq_false (by decide +kernel)
theorem jap : (("kind" : Str) = "many") = False := eq_false (by decide +kernel)
theorem ja0 : (("kind" : Str) = "may") = False := eq_false (by decide +kernel)
theorem qap : (("kind" : Str) = "must") = False := eq_false (by decide +kernel)
theorem xai : (("kind" : Str) = "often") = False := eq_false (by decide +kernel)
theorem k9 : (("letter" : Str) = "kind") = False := eq_false (by decide +kernel)
theorem x9 : (("letter" : Str) = "many") = False := eq_false (by decide +kernel)
theorem zai : (("letter" : Str) = "may") = False := eq_false (by decide +kernel)
theorem z9 : (("letter" : Str) = "must") = False := eq_false (by decide +kernel)
theorem wao : (("many" : Str) = "must") = False := eq_false (by decide +kernel)
theorem qa0 : (("may" : Str) = "many") = False := eq_false (by decide +kernel)
theorem waz : (("may" : Str) = "must") = False := eq_false (by decide +kernel)
theorem yao : (("name" : Str) = "kind") = False := eq_false (by decide +kernel)
theorem j9 : (("name" : Str) = "letter") = False := eq_false (by decide +kernel)
theorem vao : (("name" : Str) = "many") = False := eq_false (by decide +kernel)
theorem yaz : (("name" : Str) = "may") = False := eq_false (by decide +kernel)
theorem kao : (("name" : Str) = "must") = False := eq_false (by decide +kernel)
theorem jai : (("name" : Str) = "often") = False := eq_false (by decide +kernel)
theorem q9 : (("places" : Str) = "bars") = False := eq_false (by decide +kernel)
theorem ky : (("places" : Str) = "needs") = False := eq_false (by decide +kernel)
theorem w8 : (("wishes" : Str) = "bars") = False := eq_false (by decide +kernel)
theorem xy : (("wishes" : Str) = "needs") = False := eq_false (by decide +kernel)
theorem xu : (("wishes" : Str) = "places") = False := eq_false (by decide +kernel)
end LW
namespace LW
open PySem PySem.Spec PyProof.Rows L2 PL
abbrev LawTrue : Prop := ∀ {A : Ads} {ns : List Int} (hn : ns.length ≤ 63), wp (F_law A) (fun r _ => r = rvB true) EF [.dat (.ro (ns.map fun i => D.s (.int i)))]
theorem all_mk (law_true : LawTrue) {l : W.OpenLaw} {w : World} {K : W.Frag} {h : Heap} {mg : Str → Option Value} {fa cWordError cNoTable cKind cAnyWord cBegins cWish cPlace cTable fxNoTable f0 f1 f2 f3 f4 f5 f6 f7 f8 f9 cT pT f10 f11 f12 f13 f14 f15 f16 tOFTENS : Addr} (X : K.In h) (G : h.Ns mainGlobals mg) (hfa : mg "law" = some (.ref fa)) {uLETTERS uMOST_OTHERS uMOST_WISHES : Value}
  (gkWordError : W.nsIn K mainGlobals "WordError" = some (some (.ref cWordError)))
  (gkNoTable : W.nsIn K mainGlobals "NoTable" = some (some (.ref cNoTable)))
  (gkKind : W.nsIn K mainGlobals "Kind" = some (some (.ref cKind)))
  (gkAnyWord : W.nsIn K mainGlobals "AnyWord" = some (some (.ref cAnyWord)))
  (gkBegins : W.nsIn K mainGlobals "Begins" = some (some (.ref cBegins)))
  (gkWish : W.nsIn K mainGlobals "Wish" = some (some (.ref cWish)))
  (gkPlace : W.nsIn K mainGlobals "Place" = some (some (.ref cPlace)))
  (gkTable : W.nsIn K mainGlobals "Table" = some (some (.ref cTable)))
  (nd : [cWordError, cNoTable, cKind, cAnyWord, cBegins, cWish, cPlace, cTable].Nodup)
  (kit_AnyWord_Kind : W.kitOne K (.ref cAnyWord) (.ref cKind) = some true)
  (kit_Begins_Kind : W.kitOne K (.ref cBegins) (.ref cKind) = some true)
  (kit_Wish_Kind : W.kitOne K (.ref cWish) (.ref cKind) = some false)
  (kit_Place_Kind : W.kitOne K (.ref cPlace) (.ref cKind) = some false)
  (kit_Table_Kind : W.kitOne K (.ref cTable) (.ref cKind) = some false)
  (kit_NoneType_Kind : W.kitOne K (.type "NoneType") (.ref cKind) = some false)
  (kit_bool_Kind : W.kitOne K (.type "bool") (.ref cKind) = some false)
  (kit_int_Kind : W.kitOne K (.type "int") (.ref cKind) = some false)
  (kit_str_Kind : W.kitOne K (.type "str") (.ref cKind) = some false)
  (kit_tuple_Kind : W.kitOne K (.type "tuple") (.ref cKind) = some false)
  (kit_list_Kind : W.kitOne K (.type "list") (.ref cKind) = some false)
  (kit_AnyWord_Wish : W.kitOne K (.ref cAnyWord) (.ref cWish) = some false)
  (kit_Begins_Wish : W.kitOne K (.ref cBegins) (.ref cWish) = some false)
  (kit_Wish_Wish : W.kitOne K (.ref cWish) (.ref cWish) = some true)
  (kit_Place_Wish : W.kitOne K (.ref cPlace) (.ref cWish) = some false)
  (kit_Table_Wish : W.kitOne K (.ref cTable) (.ref cWish) = some false)
  (kit_NoneType_Wish : W.kitOne K (.type "NoneType") (.ref cWish) = some false)
  (kit_bool_Wish : W.kitOne K (.type "bool") (.ref cWish) = some false)
  (kit_int_Wish : W.kitOne K (.type "int") (.ref cWish) = some false)
  (kit_str_Wish : W.kitOne K (.type "str") (.ref cWish) = some false)
  (kit_tuple_Wish : W.kitOne K (.type "tuple") (.ref cWish) = some false)
  (kit_list_Wish : W.kitOne K (.type "list") (.ref cWish) = some false)
  (kit_AnyWord_Place : W.kitOne K (.ref cAnyWord) (.ref cPlace) = some false)
  (kit_Begins_Place : W.kitOne K (.ref cBegins) (.ref cPlace) = some false)
  (kit_Wish_Place : W.kitOne K (.ref cWish) (.ref cPlace) = some false)
  (kit_Place_Place : W.kitOne K (.ref cPlace) (.ref cPlace) = some true)
  (kit_Table_Place : W.kitOne K (.ref cTable) (.ref cPlace) = some false)
  (kit_NoneType_Place : W.kitOne K (.type "NoneType") (.ref cPlace) = some false)
  (kit_bool_Place : W.kitOne K (.type "bool") (.ref cPlace) = some false)
  (kit_int_Place : W.kitOne K (.type "int") (.ref cPlace) = some false)
  (kit_str_Place : W.kitOne K (.type "str") (.ref cPlace) = some false)
  (kit_tuple_Place : W.kitOne K (.type "tuple") (.ref cPlace) = some false)
  (kit_list_Place : W.kitOne K (.type "list") (.ref cPlace) = some false)
  (kit_AnyWord_bool : W.kitOne K (.ref cAnyWord) (.type "bool") = some false)
  (kit_AnyWord_str : W.kitOne K (.ref cAnyWord) (.type "str") = some false)
  (kit_AnyWord_tuple : W.kitOne K (.ref cAnyWord) (.type "tuple") = some false)
  (kit_Begins_bool : W.kitOne K (.ref cBegins) (.type "bool") = some false)
  (kit_Begins_str : W.kitOne K (.ref cBegins) (.type "str") = some false)
  (kit_Begins_tuple : W.kitOne K (.ref cBegins) (.type "tuple") = some false)
  (kit_Wish_bool : W.kitOne K (.ref cWish) (.type "bool") = some false)
  (kit_Wish_str : W.kitOne K (.ref cWish) (.type "str") = some false)
  (kit_Wish_tuple : W.kitOne K (.ref cWish) (.type "tuple") = some false)
  (kit_Place_bool : W.kitOne K (.ref cPlace) (.type "bool") = some false)
  (kit_Place_str : W.kitOne K (.ref cPlace) (.type "str") = some false)
  (kit_Place_tuple : W.kitOne K (.ref cPlace) (.type "tuple") = some false)
  (kit_Table_bool : W.kitOne K (.ref cTable) (.type "bool") = some false)
  (kit_Table_str : W.kitOne K (.ref cTable) (.type "str") = some false)
  (kit_Table_tuple : W.kitOne K (.ref cTable) (.type "tuple") = some false)
  (kit_NoTable_NoTable : W.kitOne K (.ref cNoTable) (.ref cNoTable) = some true)
  (exm_NoTable_WordError : W.exmOne K (.ref cNoTable) (.ref cWordError) = some true)
  (xcNoTable : ExcC K cNoTable)
  (oxNoTable : OexC K cNoTable)
  (xnNoTable_part : W.findIn K (.ref cNoTable) "part" = some none)
  (xnNoTable_number : W.findIn K (.ref cNoTable) "number" = some none)
  (xaNoTable : MethAt K cNoTable "__init__" "NoTable.__init__" (clsS 2 0) fxNoTable)
  (xtNoTable : W.typeIn K (.ref fxNoTable) = some (.type "function"))
  (veWordError : VeCls K cWordError)
  (clAnyWord : Cls K cAnyWord)
  (icAnyWord : (W.findIn K (.ref cAnyWord) "__class__" = some (some (.builtin "object.__class__")) ∧ W.mroIn K cAnyWord (.type "object") = some true))
  (baAnyWord : Bare K cAnyWord)
  (clBegins : Cls K cBegins)
  (icBegins : (W.findIn K (.ref cBegins) "__class__" = some (some (.builtin "object.__class__")) ∧ W.mroIn K cBegins (.type "object") = some true))
  (naBegins_start : NoAttr K cBegins "start")
  (clWish : Cls K cWish)
  (icWish : (W.findIn K (.ref cWish) "__class__" = some (some (.builtin "object.__class__")) ∧ W.mroIn K cWish (.type "object") = some true))
  (naWish_name : NoAttr K cWish "name")
  (naWish_letter : NoAttr K cWish "letter")
  (naWish_kind : NoAttr K cWish "kind")
  (naWish_may : NoAttr K cWish "may")
  (naWish_many : NoAttr K cWish "many")
  (naWish_must : NoAttr K cWish "must")
  (clPlace : Cls K cPlace)
  (icPlace : (W.findIn K (.ref cPlace) "__class__" = some (some (.builtin "object.__class__")) ∧ W.mroIn K cPlace (.type "object") = some true))
  (naPlace_name : NoAttr K cPlace "name")
  (naPlace_kind : NoAttr K cPlace "kind")
  (naPlace_often : NoAttr K cPlace "often")
  (clTable : Cls K cTable)
  (icTable : (W.findIn K (.ref cTable) "__class__" = some (some (.builtin "object.__class__")) ∧ W.mroIn K cTable (.type "object") = some true))
  (naTable_wishes : NoAttr K cTable "wishes")
  (naTable_places : NoAttr K cTable "places")
  (naTable_bars : NoAttr K cTable "bars")
  (naTable_needs : NoAttr K cTable "needs")
  (hn : (W.specialIn K (.builtin "object.__class__") "__get__" = some (some (.builtin "getset_descriptor.__get__")) ∧ W.takesIn K (.builtin "object.__class__") = some true))
  (a0 : MethAt K cBegins "__init__" "Begins.__init__" (clsS 10 0) f0)
  (mk0 : (W.makesIn K cBegins = true ∧ W.keepIn K (.ref cBegins) = true))
  (a1 : MethAtF K cWish "__init__" "Wish.__init__" (clsS 16 0) f1 [.non, .non, .bl false, .bl false, .bl false])
  (mk1 : (W.makesIn K cWish = true ∧ W.keepIn K (.ref cWish) = true))
  (a2 : MethAt K cPlace "__init__" "Place.__init__" (clsS 17 0) f2)
  (mk2 : (W.makesIn K cPlace = true ∧ W.keepIn K (.ref cPlace) = true))
  (a3 : DefAt K "are_letters" (topS 6) f3)
  (a4 : DefAt K "is_named" (topS 18) f4)
  (a5 : DefAt K "is_wish" (topS 19) f5)
  (a6 : DefAt K "is_place" (topS 20) f6)
  (a7 : DefAt K "is_pair" (topS 21) f7)
  (a8 : DefAt K "need_part" (topS 22) f8)
  (a9 : MethAtC K cTable "__init__" "Table.__init__" (clsS 23 0) f9 cT)
  (mk9 : (W.makesIn K cTable = true ∧ W.keepIn K (.ref cTable) = true))
  (a10 : DefAt K "_law_mixed" (topS 25) f10)
  (a11 : DefAt K "_law_draw" (topS 26) f11)
  (a12 : DefAt K "_law_next" (topS 27) f12)
  (a13 : DefAt K "_law_pick" (topS 28) f13)
  (a14 : DefAt K "_law_at" (topS 29) f14)
  (a15 : DefAt K "_law_pairs_of" (topS 30) f15)
  (a16 : DefAt K "law" (topS 31) f16)
  (hT : h.get? pT = some { cls := .none, data := .fields #[] })
  (hcd : W.codeHdIn K cT pT = true)
  (nT : K.lookup pT = none)
  (zabs : W.nsIn K mainGlobals "abs" = some none)
  (zall : W.nsIn K mainGlobals "all" = some none)
  (zbool : W.nsIn K mainGlobals "bool" = some none)
  (zenumerate : W.nsIn K mainGlobals "enumerate" = some none)
  (zisinstance : W.nsIn K mainGlobals "isinstance" = some none)
  (zlen : W.nsIn K mainGlobals "len" = some none)
  (zlist : W.nsIn K mainGlobals "list" = some none)
  (zmax : W.nsIn K mainGlobals "max" = some none)
  (zmin : W.nsIn K mainGlobals "min" = some none)
  (zrange : W.nsIn K mainGlobals "range" = some none)
  (zstr : W.nsIn K mainGlobals "str" = some none)
  (ztuple : W.nsIn K mainGlobals "tuple" = some none)
  (qOFTENS : W.nsIn K mainGlobals "OFTENS" = some (some (.ref tOFTENS)))
  (vOFTENS : ∃ (o : Obj) (its : Array Value) (n : Nat), K.lookup tOFTENS = some o ∧ o.cls = .type "tuple" ∧ o.dict = none ∧ o.data = .seq its n ∧ its.size ≤ sizeLine ∧ L2.Vals (c_OFTENS.map L2.V.str) its.toList)
  (qLETTERS : W.nsIn K mainGlobals "LETTERS" = some (some uLETTERS))
  (rLETTERS : L2.RelV c_LETTERS uLETTERS)
  (qMOST_OTHERS : W.nsIn K mainGlobals "MOST_OTHERS" = some (some uMOST_OTHERS))
  (rMOST_OTHERS : L2.RelV c_MOST_OTHERS uMOST_OTHERS)
  (qMOST_WISHES : W.nsIn K mainGlobals "MOST_WISHES" = some (some uMOST_WISHES))
  (rMOST_WISHES : L2.RelV c_MOST_WISHES uMOST_WISHES) :
  LamX.LawAtS l w K (L2.CX l.prog w) 9 63 "_law_script" mg fa h := by
 have e := hfa.symm.trans (W.mg_of X G a16.at_)
 cases e
 have hPT : TabP K pT := a9.tabP gkTable hcd
 have T : ∀ base : Heap, LamX.TabB base mg cT pT → Txt ⟨l.prog, w, K, cWordError, cNoTable, cKind, cAnyWord, cBegins, cWish, cPlace, cTable, cT, pT, nd, kit_AnyWord_Kind, kit_Begins_Kind, kit_Wish_Kind, kit_Place_Kind, kit_Table_Kind, kit_NoneType_Kind, kit_bool_Kind, kit_int_Kind, kit_str_Kind, kit_tuple_Kind, kit_list_Kind, kit_AnyWord_Wish, kit_Begins_Wish, kit_Wish_Wish, kit_Place_Wish, kit_Table_Wish, kit_NoneType_Wish, kit_bool_Wish, kit_int_Wish, kit_str_Wish, kit_tuple_Wish, kit_list_Wish, kit_AnyWord_Place, kit_Begins_Place, kit_Wish_Place, kit_Place_Place, kit_Table_Place, kit_NoneType_Place, kit_bool_Place, kit_int_Place, kit_str_Place, kit_tuple_Place, kit_list_Place, kit_AnyWord_bool, kit_AnyWord_str, kit_AnyWord_tuple, kit_Begins_bool, kit_Begins_str, kit_Begins_tuple, kit_Wish_bool, kit_Wish_str, kit_Wish_tuple, kit_Place_bool, kit_Place_str, kit_Place_tuple, kit_Table_bool, kit_Table_str, kit_Table_tuple, kit_NoTable_NoTable, exm_NoTable_WordError⟩ mg base := fun base hTB => {
  f_Begins_init := ⟨_, _, a0.fn, a0.mkOk mk0.1 mk0.2, a0.fn.binds (ps := ["self", "start"]) fun _ _ _ _ _ _ us hl => match us, hl with | [_, _], _ => rfl⟩
  f_Wish_init := by
   obtain ⟨fd, z⟩ := a1.fn
   exact ⟨_, fd, z, a1.mkOk mk1.1 mk1.2, z.binds1 (ps := ["self", "name", "letter", "kind", "may", "many", "must"]) 4 2 (by decide) rfl fun _ _ _ _ _ _ _ us its hl hi => match us, hl, its, hi with | [_, _, _, _], _, [_, _, _, _, _], _ => ⟨_, rfl, rfl⟩, z.binds1 (ps := ["self", "name", "letter", "kind", "may", "many", "must"]) 2 0 (by decide) rfl fun _ _ _ _ _ _ _ us its hl hi => match us, hl, its, hi with | [_, _], _, [_, _, _, _, _], _ => ⟨_, rfl, rfl⟩⟩
  f_Place_init := ⟨_, _, a2.fn, a2.mkOk mk2.1 mk2.2, a2.fn.binds (ps := ["self", "name", "kind", "often"]) fun _ _ _ _ _ _ us hl => match us, hl with | [_, _, _, _], _ => rfl⟩
  f_are_letters := ⟨_, _, a3.fn, W.mg_of X G a3.at_, a3.fn.binds (ps := ["thing", "least", "most"]) fun _ _ _ _ _ _ us hl => match us, hl with | [_, _, _], _ => rfl⟩
  f_is_named := ⟨_, _, a4.fn, W.mg_of X G a4.at_, a4.fn.binds (ps := ["thing", "names"]) fun _ _ _ _ _ _ us hl => match us, hl with | [_, _], _ => rfl⟩
  f_is_wish := ⟨_, _, a5.fn, W.mg_of X G a5.at_, a5.fn.binds (ps := ["thing", "ahead"]) fun _ _ _ _ _ _ us hl => match us, hl with | [_, _], _ => rfl⟩
  f_is_place := ⟨_, _, a6.fn, W.mg_of X G a6.at_, a6.fn.binds (ps := ["thing", "names"]) fun _ _ _ _ _ _ us hl => match us, hl with | [_, _], _ => rfl⟩
  f_is_pair := ⟨_, _, a7.fn, W.mg_of X G a7.at_, a7.fn.binds (ps := ["thing", "names"]) fun _ _ _ _ _ _ us hl => match us, hl with | [_, _], _ => rfl⟩
  f_need_part := ⟨_, _, a8.fn, W.mg_of X G a8.at_, a8.fn.binds (ps := ["part", "things", "most", "is_right"]) fun _ _ _ _ _ _ us hl => match us, hl with | [_, _, _, _], _ => rfl⟩
  f_Table_init := by
   obtain ⟨fd, z1, z2⟩ := a9.fnC
   exact ⟨_, fd, z2, z1, a9.mkOk mk9.1 mk9.2, z2.binds (ps := ["self", "wishes", "places", "bars", "needs"]) fun _ _ _ _ _ _ us hl => match us, hl with | [_, _, _, _, _], _ => rfl⟩
  f_l_mixed := ⟨_, _, a10.fn, W.mg_of X G a10.at_, a10.fn.binds (ps := ["_law_cell", "_law_k"]) fun _ _ _ _ _ _ us hl => match us, hl with | [_, _], _ => rfl⟩
  f_l_draw := ⟨_, _, a11.fn, W.mg_of X G a11.at_, a11.fn.binds (ps := ["_law_script", "_law_k", "_law_count"]) fun _ _ _ _ _ _ us hl => match us, hl with | [_, _, _], _ => rfl⟩
  f_l_next := ⟨_, _, a12.fn, W.mg_of X G a12.at_, a12.fn.binds (ps := ["_law_draw_here", "_law_size"]) fun _ _ _ _ _ _ us hl => match us, hl with | [_, _], _ => rfl⟩
  f_l_pick := ⟨_, _, a13.fn, W.mg_of X G a13.at_, a13.fn.binds (ps := ["_law_draw_here", "_law_some"]) fun _ _ _ _ _ _ us hl => match us, hl with | [_, _], _ => rfl⟩
  f_l_at := ⟨_, _, a14.fn, W.mg_of X G a14.at_, a14.fn.binds (ps := ["_law_work"]) fun _ _ _ _ _ _ us hl => match us, hl with | [_], _ => rfl⟩
  f_l_pairs_of := ⟨_, _, a15.fn, W.mg_of X G a15.at_, a15.fn.binds (ps := ["_law_names"]) fun _ _ _ _ _ _ us hl => match us, hl with | [_], _ => rfl⟩
  f_law := ⟨_, _, a16.fn, W.mg_of X G a16.at_, a16.fn.binds (ps := ["_law_script"]) fun _ _ _ _ _ _ us hl => match us, hl with | [_], _ => rfl⟩
  k_WordError := W.mg_of X G gkWordError
  k_NoTable := W.mg_of X G gkNoTable
  k_Kind := W.mg_of X G gkKind
  k_AnyWord := W.mg_of X G gkAnyWord
  k_Begins := W.mg_of X G gkBegins
  k_Wish := W.mg_of X G gkWish
  k_Place := W.mg_of X G gkPlace
  k_Table := W.mg_of X G gkTable
  cl_AnyWord := clAnyWord
  b_AnyWord := baAnyWord
  cl_Begins := clBegins
  cl_Wish := clWish
  cl_Place := clPlace
  cl_Table := clTable
  na_bars := (con1 ⟨clTable, naTable_bars⟩ con0)
  na_kind := (con1 ⟨clWish, naWish_kind⟩ (con1 ⟨clPlace, naPlace_kind⟩ con0))
  na_letter := (con1 ⟨clWish, naWish_letter⟩ con0)
  na_many := (con1 ⟨clWish, naWish_many⟩ con0)
  na_may := (con1 ⟨clWish, naWish_may⟩ con0)
  na_must := (con1 ⟨clWish, naWish_must⟩ con0)
  na_name := (con1 ⟨clWish, naWish_name⟩ (con1 ⟨clPlace, naPlace_name⟩ con0))
  na_needs := (con1 ⟨clTable, naTable_needs⟩ con0)
  na_often := (con1 ⟨clPlace, naPlace_often⟩ con0)
  na_places := (con1 ⟨clTable, naTable_places⟩ con0)
  na_start := (con1 ⟨clBegins, naBegins_start⟩ con0)
  na_wishes := (con1 ⟨clTable, naTable_wishes⟩ con0)
  z_abs := W.mg_none_of X G zabs
  z_all := W.mg_none_of X G zall
  z_bool := W.mg_none_of X G zbool
  z_enumerate := W.mg_none_of X G zenumerate
  z_isinstance := W.mg_none_of X G zisinstance
  z_len := W.mg_none_of X G zlen
  z_list := W.mg_none_of X G zlist
  z_max := W.mg_none_of X G zmax
  z_min := W.mg_none_of X G zmin
  z_range := W.mg_none_of X G zrange
  z_str := W.mg_none_of X G zstr
  z_tuple := W.mg_none_of X G ztuple
  c_OFTENS := ⟨.ref tOFTENS, .ref tOFTENS, W.mg_of X G qOFTENS, (rfl : L2.RelV (.ref tOFTENS) (.ref tOFTENS)), tup_strs vOFTENS⟩
  c_LETTERS := ⟨_, W.mg_of X G qLETTERS, rLETTERS⟩
  c_MOST_OTHERS := ⟨_, W.mg_of X G qMOST_OTHERS, rMOST_OTHERS⟩
  c_MOST_WISHES := ⟨_, W.mg_of X G qMOST_WISHES, rMOST_WISHES⟩
  tb := hTB
  tabP := hPT
  isi := (con1 ⟨clAnyWord, icAnyWord.1, hn.1, hn.2, icAnyWord.2⟩ (con1 ⟨clBegins, icBegins.1, hn.1, hn.2, icBegins.2⟩ (con1 ⟨clWish, icWish.1, hn.1, hn.2, icWish.2⟩ (con1 ⟨clPlace, icPlace.1, hn.1, hn.2, icPlace.2⟩ (con1 ⟨clTable, icTable.1, hn.1, hn.2, icTable.2⟩ con0)))))
  ox_NoTable := oxNoTable
  xn_NoTable_part := xnNoTable_part
  xn_NoTable_number := xnNoTable_number
  fx_NoTable := ⟨_, _, xaNoTable.fn, xaNoTable.at_, xtNoTable, xaNoTable.fn.binds (ps := ["self", "part", "number"]) fun _ _ _ _ _ _ us hl => match us, hl with | [_, _, _], _ => rfl⟩
  ve_WordError := veWordError
  xfd_number := (con1 ⟨xcNoTable, xnNoTable_number⟩ con0)
  xfd_part := (con1 ⟨xcNoTable, xnNoTable_part⟩ con0)
  xcs := (con1 xcNoTable con0) }
 obtain ⟨oc, od, dc, pm, an, cd, ct, sl, kV, l1, c1⟩ := a16.ex
 have key := fun (base : Heap) (hTB : LamX.TabB base mg cT pT) => (fn_law (A := ⟨l.prog, w, K, cWordError, cNoTable, cKind, cAnyWord, cBegins, cWish, cPlace, cTable, cT, pT, nd, kit_AnyWord_Kind, kit_Begins_Kind, kit_Wish_Kind, kit_Place_Kind, kit_Table_Kind, kit_NoneType_Kind, kit_bool_Kind, kit_int_Kind, kit_str_Kind, kit_tuple_Kind, kit_list_Kind, kit_AnyWord_Wish, kit_Begins_Wish, kit_Wish_Wish, kit_Place_Wish, kit_Table_Wish, kit_NoneType_Wish, kit_bool_Wish, kit_int_Wish, kit_str_Wish, kit_tuple_Wish, kit_list_Wish, kit_AnyWord_Place, kit_Begins_Place, kit_Wish_Place, kit_Place_Place, kit_Table_Place, kit_NoneType_Place, kit_bool_Place, kit_int_Place, kit_str_Place, kit_tuple_Place, kit_list_Place, kit_AnyWord_bool, kit_AnyWord_str, kit_AnyWord_tuple, kit_Begins_bool, kit_Begins_str, kit_Begins_tuple, kit_Wish_bool, kit_Wish_str, kit_Wish_tuple, kit_Place_bool, kit_Place_str, kit_Place_tuple, kit_Table_bool, kit_Table_str, kit_Table_tuple, kit_NoTable_NoTable, exm_NoTable_WordError⟩) (T base hTB) 0 (fun_mk (st := topS 31) l1 c1 a16.kp)).imp (spF_law fun ns hn => law_true hn)
 exact ⟨_, [(cT, pT)], spLaw K, fun p hp => by rw [List.mem_singleton.mp hp]; exact hT, fun p hp => by rw [List.mem_singleton.mp hp]; exact nT, fun p hp => by rw [List.mem_singleton.mp hp]; exact W.codeHd_of_K X hcd, fun s v => .of_eq rfl, fun H a ns hl _ hH hS => ⟨a, ns, rfl, hS, hl, fun P hP => by rw [a9.tab_only gkTable hcd hP]; exact LamX.TabS.nil (hH (cT, pT) (List.mem_singleton.mpr rfl)), fun _ => rfl⟩, fun base _ _ hTB0 => key base (hTB0 (cT, pT) (List.mem_singleton.mpr rfl))⟩
end LW
section
open PySem PySem.W PyProof.Rows
set_option maxHeartbeats 0 in
theorem fin_ (law_true : LW.LawTrue) : PySem.Challenge.rw_wishwords_k09_whole_bounds_of_tables.Holds := by
 w_on; o_law
 refine holds_open (q := HD.view) (loose := HD.loose) (Xt := fun s => xlAt HD.view [] s && recOk PySem.Challenge.rw_wishwords_k09_whole_bounds_of_tables.row.records s) (XP := XL HD.view []) (Yf := Hook.obs (kHook (HX.kT HD.h0.heap_1 [259]) HD.asL HD.asE)) (Ya := Hook.val (kHook (HX.kT HD.h0.heap_1 [259]) HD.asL HD.asE)) (YP := Hook.says (kHook (HX.kT HD.h0.heap_1 [259]) HD.asL HD.asE)) (N := 6468) HD.left (Hook.of _) (Hook.keeps _) (fun s e => xl_of s (Bool.and_eq_true_iff.mp e).1) XL.keeps (by rfl) (by rfl) (by rfl) (fun s e => recFacts_of (Bool.and_eq_true_iff.mp e).2) (by rfl) (by first | assumption | decide +kernel) (by decide +kernel) ⟨rfl, rfl, rfl, rfl, rfl, pTW⟩ ?hw ?hc
 (case hw => w_witness2)
 k_fill
 refine LamX.walk_ofTs (l := PySem.Challenge.rw_wishwords_k09_whole_bounds_of_tables) (n := 63) (k := 9) (x := "_law_script") (CX := fun w => L2.CX PySem.Challenge.rw_wishwords_k09_whole_bounds_of_tables.prog w) rfl (by decide) rfl ⟨rfl, by decide, by decide⟩ (fun w h Y => HX.in_of Y) ?F (fun _ _ _ _ _ h => by obtain ⟨_, _, _, _, _, _, _, _, _, _, _, _, z⟩ := h; exact z.elim)
 case F =>
  intro w mg fa h Y KX G hmg
  refine' LW.all_mk law_true KX G hmg ?gkWordError ?gkNoTable ?gkKind ?gkAnyWord ?gkBegins ?gkWish ?gkPlace ?gkTable ?nd ?kit_AnyWord_Kind ?kit_Begins_Kind ?kit_Wish_Kind ?kit_Place_Kind ?kit_Table_Kind ?kit_NoneType_Kind ?kit_bool_Kind ?kit_int_Kind ?kit_str_Kind ?kit_tuple_Kind ?kit_list_Kind ?kit_AnyWord_Wish ?kit_Begins_Wish ?kit_Wish_Wish ?kit_Place_Wish ?kit_Table_Wish ?kit_NoneType_Wish ?kit_bool_Wish ?kit_int_Wish ?kit_str_Wish ?kit_tuple_Wish ?kit_list_Wish ?kit_AnyWord_Place ?kit_Begins_Place ?kit_Wish_Place ?kit_Place_Place ?kit_Table_Place ?kit_NoneType_Place ?kit_bool_Place ?kit_int_Place ?kit_str_Place ?kit_tuple_Place ?kit_list_Place ?kit_AnyWord_bool ?kit_AnyWord_str ?kit_AnyWord_tuple ?kit_Begins_bool ?kit_Begins_str ?kit_Begins_tuple ?kit_Wish_bool ?kit_Wish_str ?kit_Wish_tuple ?kit_Place_bool ?kit_Place_str ?kit_Place_tuple ?kit_Table_bool ?kit_Table_str ?kit_Table_tuple ?kit_NoTable_NoTable ?exm_NoTable_WordError ?xcNoTable ?oxNoTable ?xnNoTable_part ?xnNoTable_number ?xaNoTable ?xtNoTable ?veWordError ?clAnyWord ?icAnyWord ?baAnyWord ?clBegins ?icBegins ?naBegins_start ?clWish ?icWish ?naWish_name ?naWish_letter ?naWish_kind ?naWish_may ?naWish_many ?naWish_must ?clPlace ?icPlace ?naPlace_name ?naPlace_kind ?naPlace_often ?clTable ?icTable ?naTable_wishes ?naTable_places ?naTable_bars ?naTable_needs ?hn ?a0 ?mk0 ?a1 ?mk1 ?a2 ?mk2 ?a3 ?a4 ?a5 ?a6 ?a7 ?a8 ?a9 ?mk9 ?a10 ?a11 ?a12 ?a13 ?a14 ?a15 ?a16 ?hT ?hcd ?nT ?zabs ?zall ?zbool ?zenumerate ?zisinstance ?zlen ?zlist ?zmax ?zmin ?zrange ?zstr ?ztuple ?qOFTENS ?vOFTENS ?qLETTERS ?rLETTERS ?qMOST_OTHERS ?rMOST_OTHERS ?qMOST_WISHES ?rMOST_WISHES
  (case gkWordError => first | k_is | rfl | decide +kernel)
  (case gkNoTable => first | k_is | rfl | decide +kernel)
  (case gkKind => first | k_is | rfl | decide +kernel)
  (case gkAnyWord => first | k_is | rfl | decide +kernel)
  (case gkBegins => first | k_is | rfl | decide +kernel)
  (case gkWish => first | k_is | rfl | decide +kernel)
  (case gkPlace => first | k_is | rfl | decide +kernel)
  (case gkTable => first | k_is | rfl | decide +kernel)
  (case nd => decide)
  (case kit_AnyWord_Kind => first | k_is | rfl | decide +kernel)
  (case kit_Begins_Kind => first | k_is | rfl | decide +kernel)
  (case kit_Wish_Kind => first | k_is | rfl | decide +kernel)
  (case kit_Place_Kind => first | k_is | rfl | decide +kernel)
  (case kit_Table_Kind => first | k_is | rfl | decide +kernel)
  (case kit_NoneType_Kind => first | k_is | rfl | decide +kernel)
  (case kit_bool_Kind => first | k_is | rfl | decide +kernel)
  (case kit_int_Kind => first | k_is | rfl | decide +kernel)
  (case kit_str_Kind => first | k_is | rfl | decide +kernel)
  (case kit_tuple_Kind => first | k_is | rfl | decide +kernel)
  (case kit_list_Kind => first | k_is | rfl | decide +kernel)
  (case kit_AnyWord_Wish => first | k_is | rfl | decide +kernel)
  (case kit_Begins_Wish => first | k_is | rfl | decide +kernel)
  (case kit_Wish_Wish => first | k_is | rfl | decide +kernel)
  (case kit_Place_Wish => first | k_is | rfl | decide +kernel)
  (case kit_Table_Wish => first | k_is | rfl | decide +kernel)
  (case kit_NoneType_Wish => first | k_is | rfl | decide +kernel)
  (case kit_bool_Wish => first | k_is | rfl | decide +kernel)
  (case kit_int_Wish => first | k_is | rfl | decide +kernel)
  (case kit_str_Wish => first | k_is | rfl | decide +kernel)
  (case kit_tuple_Wish => first | k_is | rfl | decide +kernel)
  (case kit_list_Wish => first | k_is | rfl | decide +kernel)
  (case kit_AnyWord_Place => first | k_is | rfl | decide +kernel)
  (case kit_Begins_Place => first | k_is | rfl | decide +kernel)
  (case kit_Wish_Place => first | k_is | rfl | decide +kernel)
  (case kit_Place_Place => first | k_is | rfl | decide +kernel)
  (case kit_Table_Place => first | k_is | rfl | decide +kernel)
  (case kit_NoneType_Place => first | k_is | rfl | decide +kernel)
  (case kit_bool_Place => first | k_is | rfl | decide +kernel)
  (case kit_int_Place => first | k_is | rfl | decide +kernel)
  (case kit_str_Place => first | k_is | rfl | decide +kernel)
  (case kit_tuple_Place => first | k_is | rfl | decide +kernel)
  (case kit_list_Place => first | k_is | rfl | decide +kernel)
  (case kit_AnyWord_bool => first | k_is | rfl | decide +kernel)
  (case kit_AnyWord_str => first | k_is | rfl | decide +kernel)
  (case kit_AnyWord_tuple => first | k_is | rfl | decide +kernel)
  (case kit_Begins_bool => first | k_is | rfl | decide +kernel)
  (case kit_Begins_str => first | k_is | rfl | decide +kernel)
  (case kit_Begins_tuple => first | k_is | rfl | decide +kernel)
  (case kit_Wish_bool => first | k_is | rfl | decide +kernel)
  (case kit_Wish_str => first | k_is | rfl | decide +kernel)
  (case kit_Wish_tuple => first | k_is | rfl | decide +kernel)
  (case kit_Place_bool => first | k_is | rfl | decide +kernel)
  (case kit_Place_str => first | k_is | rfl | decide +kernel)
  (case kit_Place_tuple => first | k_is | rfl | decide +kernel)
  (case kit_Table_bool => first | k_is | rfl | decide +kernel)
  (case kit_Table_str => first | k_is | rfl | decide +kernel)
  (case kit_Table_tuple => first | k_is | rfl | decide +kernel)
  (case kit_NoTable_NoTable => first | k_is | rfl | decide +kernel)
  (case exm_NoTable_WordError => refine' W.exm_ref ?_ ?_ ?_ ?_ <;> (first | k_is | rfl | decide +kernel))
  (case xcNoTable => constructor <;> (first | k_is | rfl | decide +kernel))
  (case oxNoTable => refine' PL.oexC_mk ?oxaNoTable ?oxbNoTable ?oxcNoTable ?oxdNoTable ?oxeNoTable ?oxfNoTable; (case oxaNoTable => k_is); (case oxbNoTable => decide); (case oxcNoTable => k_is); (case oxdNoTable => k_is); (case oxeNoTable => k_is); (case oxfNoTable => k_is))
  (case xnNoTable_part => first | k_is | rfl | decide +kernel)
  (case xnNoTable_number => first | k_is | rfl | decide +kernel)
  (case xaNoTable => refine' PL.MethAt.of ?xxaNoTable ?xxlNoTable ?xxcNoTable ?xxkNoTable ?xxfNoTable; (case xxaNoTable => k_is); (case xxlNoTable => k_is); (case xxcNoTable => k_is); (case xxkNoTable => k_is); (case xxfNoTable => first | k_is | rfl | decide +kernel))
  (case xtNoTable => first | k_is | rfl | decide +kernel)
  (case veWordError => constructor <;> (first | k_is | rfl | decide +kernel))
  (case clAnyWord => constructor <;> (first | k_is | rfl | decide +kernel))
  (case icAnyWord => constructor <;> (first | k_is | rfl | decide +kernel))
  (case baAnyWord => constructor <;> (first | k_is | rfl | decide +kernel))
  (case clBegins => constructor <;> (first | k_is | rfl | decide +kernel))
  (case icBegins => constructor <;> (first | k_is | rfl | decide +kernel))
  (case naBegins_start => show W.findIn _ _ _ = _; first | k_is | rfl | decide +kernel)
  (case clWish => constructor <;> (first | k_is | rfl | decide +kernel))
  (case icWish => constructor <;> (first | k_is | rfl | decide +kernel))
  (case naWish_name => show W.findIn _ _ _ = _; first | k_is | rfl | decide +kernel)
  (case naWish_letter => show W.findIn _ _ _ = _; first | k_is | rfl | decide +kernel)
  (case naWish_kind => show W.findIn _ _ _ = _; first | k_is | rfl | decide +kernel)
  (case naWish_may => show W.findIn _ _ _ = _; first | k_is | rfl | decide +kernel)
  (case naWish_many => show W.findIn _ _ _ = _; first | k_is | rfl | decide +kernel)
  (case naWish_must => show W.findIn _ _ _ = _; first | k_is | rfl | decide +kernel)
  (case clPlace => constructor <;> (first | k_is | rfl | decide +kernel))
  (case icPlace => constructor <;> (first | k_is | rfl | decide +kernel))
  (case naPlace_name => show W.findIn _ _ _ = _; first | k_is | rfl | decide +kernel)
  (case naPlace_kind => show W.findIn _ _ _ = _; first | k_is | rfl | decide +kernel)
  (case naPlace_often => show W.findIn _ _ _ = _; first | k_is | rfl | decide +kernel)
  (case clTable => constructor <;> (first | k_is | rfl | decide +kernel))
  (case icTable => constructor <;> (first | k_is | rfl | decide +kernel))
  (case naTable_wishes => show W.findIn _ _ _ = _; first | k_is | rfl | decide +kernel)
  (case naTable_places => show W.findIn _ _ _ = _; first | k_is | rfl | decide +kernel)
  (case naTable_bars => show W.findIn _ _ _ = _; first | k_is | rfl | decide +kernel)
  (case naTable_needs => show W.findIn _ _ _ = _; first | k_is | rfl | decide +kernel)
  (case hn => constructor <;> (first | k_is | rfl | decide +kernel))
  (case a0 => refine' PL.MethAt.of ?xa0 ?xl0 ?xc0 ?xk0 ?xf0; (case xa0 => k_is); (case xl0 => k_is); (case xc0 => k_is); (case xk0 => k_is); (case xf0 => first | k_is | rfl | decide +kernel))
  (case mk0 => constructor <;> (first | k_is | rfl | decide +kernel))
  (case a1 => refine' PL.MethAtF.of ?xa1 ?xl1 ?xc1 ?xk1 ?xf1 ?xt1 ?xv1 ?xn1; (case xa1 => k_is); (case xl1 => k_is); (case xc1 => k_is); (case xk1 => k_is); (case xf1 => first | k_is | rfl | decide +kernel); (case xt1 => k_is); (case xv1 => repeat (first | exact .nil | refine .cons rfl ?_)); (case xn1 => decide))
  (case mk1 => constructor <;> (first | k_is | rfl | decide +kernel))
  (case a2 => refine' PL.MethAt.of ?xa2 ?xl2 ?xc2 ?xk2 ?xf2; (case xa2 => k_is); (case xl2 => k_is); (case xc2 => k_is); (case xk2 => k_is); (case xf2 => first | k_is | rfl | decide +kernel))
  (case mk2 => constructor <;> (first | k_is | rfl | decide +kernel))
  (case a3 => refine' PL.DefAt.of ?xa3 ?xl3 ?xc3 ?xk3; (case xa3 => k_is); (case xl3 => k_is); (case xc3 => k_is); (case xk3 => k_is))
  (case a4 => refine' PL.DefAt.of ?xa4 ?xl4 ?xc4 ?xk4; (case xa4 => k_is); (case xl4 => k_is); (case xc4 => k_is); (case xk4 => k_is))
  (case a5 => refine' PL.DefAt.of ?xa5 ?xl5 ?xc5 ?xk5; (case xa5 => k_is); (case xl5 => k_is); (case xc5 => k_is); (case xk5 => k_is))
  (case a6 => refine' PL.DefAt.of ?xa6 ?xl6 ?xc6 ?xk6; (case xa6 => k_is); (case xl6 => k_is); (case xc6 => k_is); (case xk6 => k_is))
  (case a7 => refine' PL.DefAt.of ?xa7 ?xl7 ?xc7 ?xk7; (case xa7 => k_is); (case xl7 => k_is); (case xc7 => k_is); (case xk7 => k_is))
  (case a8 => refine' PL.DefAt.of ?xa8 ?xl8 ?xc8 ?xk8; (case xa8 => k_is); (case xl8 => k_is); (case xc8 => k_is); (case xk8 => k_is))
  (case a9 => refine' PL.MethAtC.of ?xa9 ?xl9 ?xc9 ?xk9 ?xf9; (case xa9 => k_is); (case xl9 => k_is); (case xc9 => k_is); (case xk9 => k_is); (case xf9 => first | k_is | rfl | decide +kernel))
  (case mk9 => constructor <;> (first | k_is | rfl | decide +kernel))
  (case a10 => refine' PL.DefAt.of ?xa10 ?xl10 ?xc10 ?xk10; (case xa10 => k_is); (case xl10 => k_is); (case xc10 => k_is); (case xk10 => k_is))
  (case a11 => refine' PL.DefAt.of ?xa11 ?xl11 ?xc11 ?xk11; (case xa11 => k_is); (case xl11 => k_is); (case xc11 => k_is); (case xk11 => k_is))
  (case a12 => refine' PL.DefAt.of ?xa12 ?xl12 ?xc12 ?xk12; (case xa12 => k_is); (case xl12 => k_is); (case xc12 => k_is); (case xk12 => k_is))
  (case a13 => refine' PL.DefAt.of ?xa13 ?xl13 ?xc13 ?xk13; (case xa13 => k_is); (case xl13 => k_is); (case xc13 => k_is); (case xk13 => k_is))
  (case a14 => refine' PL.DefAt.of ?xa14 ?xl14 ?xc14 ?xk14; (case xa14 => k_is); (case xl14 => k_is); (case xc14 => k_is); (case xk14 => k_is))
  (case a15 => refine' PL.DefAt.of ?xa15 ?xl15 ?xc15 ?xk15; (case xa15 => k_is); (case xl15 => k_is); (case xc15 => k_is); (case xk15 => k_is))
  (case a16 => refine' PL.DefAt.of ?xa16 ?xl16 ?xc16 ?xk16; (case xa16 => k_is); (case xl16 => k_is); (case xc16 => k_is); (case xk16 => k_is))
  (case hT => exact HX.tab_of Y (by first | k_is | rfl | decide +kernel))
  (case hcd => first | k_is | rfl | decide +kernel)
  (case nT => first | k_is | rfl | decide +kernel)
  (case zabs => k_is)
  (case zall => k_is)
  (case zbool => k_is)
  (case zenumerate => k_is)
  (case zisinstance => k_is)
  (case zlen => k_is)
  (case zlist => k_is)
  (case zmax => k_is)
  (case zmin => k_is)
  (case zrange => k_is)
  (case zstr => k_is)
  (case ztuple => k_is)
  (case qOFTENS => k_is)
  (case vOFTENS => refine' PL.tupAt0 ?vhOFTENS ?vzOFTENS ?vvOFTENS; (case vhOFTENS => k_is); (case vzOFTENS => decide); (case vvOFTENS => repeat (first | exact .nil | refine .cons ⟨_, rfl⟩ ?_)))
  (case qLETTERS => k_is)
  (case rLETTERS => exact ⟨_, rfl⟩)
  (case qMOST_OTHERS => k_is)
  (case rMOST_OTHERS => exact ⟨_, rfl⟩)
  (case qMOST_WISHES => k_is)
  (case rMOST_WISHES => exact ⟨_, rfl⟩)
end
namespace PL.SX
open PySem PySem.Calls PyProof.Rows PySem.Spec L2
end PL.SX
namespace PL
open PySem PySem.Spec PyProof.Rows L2
end PL
namespace PL
open PySem
end PL
namespace PL
open PySem L2 PySem.Spec PyProof.Rows
end PL
namespace LW
open PySem L2 PL
abbrev zi (c : Int) : D := .s (.int c)
abbrev zs (c : Str) : D := .s (.str c)
abbrev zb (c : Bool) : D := .s (.bl c)
def mixedZ (c k : Int) : Int := (((c + 7919 * k + 11) * 48271 % 2147483647) * ((c + 7919 * k + 11) * 48271 % 2147483647) + 40692 * ((c + 7919 * k + 11) * 48271 % 2147483647)) % 2147483399
def signsS : Str := "-0123456789=abcdefghijklmnopqrstuvwxyz"
def inS (z : Str) (c : Nat) : Bool := z.cps.contains c
def z7 (z w : Str) : Bool := w.cps.toList.all (inS z)
def goodW (w : Str) : Bool := (decide (1 ≤ w.length) && decide (w.length ≤ 60)) && z7 signsS w
theorem len_list (w : Str) : w.cps.toList.length = w.length := Array.length_toList
theorem str_ext {a b : Str} (h : a.cps.toList = b.cps.toList) : a = b := by
 obtain ⟨⟨a⟩⟩ := a
 obtain ⟨⟨b⟩⟩ := b
 have h : a = b := h
 rw [h]
theorem k7 {α : Type} (p : α → Bool) : ∀ (l : List α) (a : α), p a = false → ((l ++ [a]).takeWhile p).length ≤ l.length
 | [], a, h => by simp [h]
 | x :: l, a, h => by
  rw [List.cons_append, List.takeWhile_cons]
  split
  ·rw [List.length_cons, List.length_cons]
   have := k7 p l a h
   omega
  ·simp
theorem takeWhile_stop {α : Type} (p : α → Bool) : ∀ (l : List α), (l.takeWhile p).length = l.length ∧ l.all p = true ∨ ∃ a t, l.drop (l.takeWhile p).length = a :: t ∧ p a = false ∧ l.all p = false
 | [] => .inl ⟨rfl, rfl⟩
 | x :: l => by
  rw [List.takeWhile_cons]
  cases q : p x with
  | false => exact .inr ⟨x, l, rfl, q, by simp [q]⟩
  | true =>
   rcases takeWhile_stop p l with ⟨h1, h2⟩ | ⟨a, t, h1, h2, h3⟩
   ·refine .inl ⟨?_, by simp [q, h2]⟩
    simp [h1]
   ·refine .inr ⟨a, t, ?_, h2, by simp [q, h3]⟩
    simpa using h1
theorem strip_none (w y : Str) : (Txt.stripChars w y == "") = z7 y w := by
 unfold Txt.stripChars
 rw [PyProof.Rows.stripBy_eq]
 have key : Builtin.Str.strSub w (stripLo y.cps.contains true w) (stripHi y.cps.contains true w (stripLo y.cps.contains true w)) = "" ↔ z7 y w = true := by
  have hl := len_list w
  have e1 : stripLo y.cps.contains true w = (w.cps.toList.takeWhile (inS y)).length := rfl
  rw [e1]
  have e2 : stripHi y.cps.contains true w (w.cps.toList.takeWhile (inS y)).length = w.length - ((w.cps.toList.drop (w.cps.toList.takeWhile (inS y)).length).reverse.takeWhile (inS y)).length := rfl
  rw [e2]
  rcases takeWhile_stop (inS y) w.cps.toList with ⟨h1, h2⟩ | ⟨a, t, h1, h2, h3⟩
  ·refine ⟨fun _ => h2, fun _ => str_ext ?_⟩
   unfold Builtin.Str.strSub
   rw [Array.toList_extract, h1, hl]
   show List.take _ (List.drop w.length w.cps.toList) = _
   rw [List.drop_eq_nil_of_le (by omega), List.take_nil]
   rfl
  ·refine ⟨fun z => ?_, fun z => ?_⟩
   ·exfalso
    rw [h1] at z
    have e3 : (w.cps.toList.takeWhile (inS y)).length + (t.length + 1) = w.length := by
     have := congrArg List.length h1
     rw [List.length_drop, List.length_cons, hl] at this
     have h5 : (w.cps.toList.takeWhile (inS y)).length ≤ w.cps.toList.length := (List.takeWhile_sublist _).length_le
     omega
    have e4 : ((a :: t).reverse.takeWhile (inS y)).length ≤ t.length := by
     rw [List.reverse_cons]
     have := k7 (inS y) t.reverse a h2
     rwa [List.length_reverse] at this
    have e5 : (Builtin.Str.strSub w (w.cps.toList.takeWhile (inS y)).length (w.length - ((a :: t).reverse.takeWhile (inS y)).length)).cps.size = 0 := by rw [z]; rfl
    unfold Builtin.Str.strSub at e5
    rw [Array.size_extract] at e5
    have : w.cps.size = w.length := rfl
    omega
   ·rw [z7, h3] at z; cases z
 cases q : z7 y w with
 | true => exact beq_iff_eq.mpr (key.mpr q)
 | false =>
  refine beq_eq_false_iff_ne.mpr fun z => ?_
  rw [key.mp z] at q
  cases q
theorem ja {n : Nat} (h : n ≤ 1000000) : n ≤ sizeLine := by rw [size_eq]; omega
theorem okS_empty : okS ("" : Str) := by decide +kernel
def figsS : Str := "0123456789"
def lettersS : Str := "abcdefghijklmnopqrstuvwxyz"
abbrev val (w : Str) : Nat := NumText.digitsVal w.cps.toList
def hd0 (w : Str) : Str := ⟨#[w.cps.getD 0 0]⟩
def lead (w : Str) : Bool := hd0 w == "0" && !(w == "0")
def numB (a b : Int) (w : Str) : Bool := (z7 figsS w && !lead w && decide (w.length ≤ 4)) && (decide (a ≤ (val w : Int)) && decide ((val w : Int) ≤ b))
def inW (w : Str) (ws : List Str) : Bool := inV (.str w) (ws.map V.str)
inductive Kd where
 | any
 | num (a b : Int)
 | amg (ws : List Str)
 | beg (z : Str)
def Kd.told : Kd → D
 | .any => .tup [zs "any"]
 | .num a b => .tup [zs "number", zi a, zi b]
 | .amg ws => .tup [zs "among", .tup (ws.map zs)]
 | .beg z => .tup [zs "begins", zs z]
def Kd.holds : Kd → Str → Bool
 | .any, _ => true
 | .num a b, w => numB a b w
 | .amg ws, w => inW w ws
 | .beg z, w => Txt.startswith w z
def Kd.ok : Kd → Prop
 | .any => True
 | .num a b => 0 ≤ a ∧ a ≤ b ∧ b ≤ 9999
 | .amg ws => (1 ≤ ws.length ∧ ws.length ≤ 6) ∧ ws.Nodup ∧ ∀ w ∈ ws, goodW w = true ∧ Txt.startswith w "-" = false
 | .beg z => (1 ≤ z.length ∧ z.length ≤ 6) ∧ z7 lettersS z = true
structure W9 (w : Str) : Prop where
 k : okS w
 l0 : 1 ≤ w.length
 l1 : w.length ≤ 200
theorem sV_zs (ws : List Str) : (ws.map zs).map sV = ws.map V.str := by rw [List.map_map]; rfl
theorem xbq (ws : List Str) : (ws.map zs).all zbl = true := List.all_eq_true.mpr fun d m => by
 obtain ⟨w, _, rfl⟩ := List.mem_map.mp m
 rfl
theorem in_tup (w : Str) (ws : List Str) : inD (zs w) (.tup (ws.map zs)) = some (rvB (inW w ws)) := by
 show (match yo (zs w) (ws.map zs) with | some b => some (rvB b) | none => none) = _
 unfold yo
 rw [if_pos (by rw [xbq]; rfl), sV_zs]
 rfl
theorem notIn_lst (w : Str) (ws : List Str) : jbk (zs w) (.lst (ws.map zs)) = some (rvB (!inW w ws)) := by
 show (match yo (zs w) (ws.map zs) with | some b => some (rvB (!b)) | none => none) = _
 unfold yo
 rw [if_pos (by rw [xbq]; rfl), sV_zs]
 rfl
theorem in_mem {z : Str} {c : Nat} (h : inS z c = true) : c ∈ z.cps.toList := Array.mem_toList_iff.mpr (Array.contains_iff.mp h)
theorem letters_lt : ∀ c ∈ lettersS.cps.toList, c < 128 := by decide +kernel
theorem ybp {z : Str} (h : z7 lettersS z = true) : okS z := okS_iff.mpr fun c m => by
 have := letters_lt c (in_mem (List.all_eq_true.mp h c m))
 omega
theorem in_of {z : Str} {c : Nat} (h : c ∈ z.cps.toList) : inS z c = true := Array.contains_iff.mpr (Array.mem_toList_iff.mp h)
theorem inW_iff {w : Str} {ws : List Str} : inW w ws = true ↔ w ∈ ws := by
 unfold inW inV
 rw [List.any_map, List.any_eq_true]
 constructor
 ·rintro ⟨x, hx, he⟩
  have : x = w := by simpa [eqV] using he
  rw [← this]; exact hx
 ·intro h
  exact ⟨w, h, by simp [eqV]⟩
theorem W9.app {a b : Str} (ha : okS a) (hb : okS b) (h1 : 1 ≤ a.length + b.length) (h2 : a.length + b.length ≤ 200) : W9 (a ++ b) := ⟨jal ha hb, by rw [len_app]; exact h1, by rw [len_app]; exact h2⟩
theorem all_cons {p : Str → Prop} {a : Str} {b : List Str} (ha : p a) (hb : ∀ w ∈ b, p w) : ∀ w ∈ a :: b, p w := fun w m => by
 rcases List.mem_cons.mp m with rfl | m
 ·exact ha
 ·exact hb w m
theorem jd {g h : PL.P Fl} {QF : Fl → En → Prop} {E : Exn → En → Prop} {ρ : En} {Q1 : En → Prop} (hg : wp g (fun fl r => fl = .next ∧ Q1 r) E ρ) (hh : ∀ r, Q1 r → wp h QF E r) : wp (sSeq g h) QF E ρ := by
 rw [wp_seq]
 refine wp_mono hg (fun fl r z => ?_) fun _ _ e => e
 obtain ⟨rfl, z⟩ := z
 exact hh r z
theorem seq_or {g h : PL.P Fl} {QF : Fl → En → Prop} {E : Exn → En → Prop} {ρ : En} (Q1 : En → Prop) (hg : wp g (fun fl r => onN fl r Q1 QF) E ρ) (hh : ∀ r, Q1 r → wp h QF E r) : wp (sSeq g h) QF E ρ := by
 rw [wp_seq]
 refine wp_mono hg (fun fl r z => ?_) fun _ _ e => e
 cases fl with
 | next => exact hh r z
 | _ => exact z
end LW
namespace LW
open PySem L2 PL
inductive Of where
 | one
 | maybe
 | some_
 | any_
def Of.s : Of → Str
 | .one => "one"
 | .maybe => "maybe"
 | .some_ => "some"
 | .any_ => "any"
def Of.again : Of → Bool
 | .some_ => true
 | .any_ => true
 | _ => false
def Of.lack : Of → Bool
 | .maybe => true
 | .any_ => true
 | _ => false
structure Pl where
 name : Str
 k : Kd
 o : Of
def scan (w : Str) : List Pl → Nat → List Int
 | [], _ => []
 | p :: r, j => (if p.k.holds w = true then [(j : Int)] else []) ++ (if p.o.lack = true then scan w r (j + 1) else [])
def onHere (ps : List Pl) (last : Int) (w : Str) : List Int := if 0 ≤ last then (match ps[last.toNat]? with
 | some p => if (p.o.again && p.k.holds w) = true then [last] else []
 | none => []) else []
def pfor (ps : List Pl) (last : Int) (w : Str) : List Int := onHere ps last w ++ scan w (ps.drop (last + 1).toNat) (last + 1).toNat
def mclose (ps : List Pl) (last : Int) : Bool := (ps.drop (last + 1).toNat).all fun p => p.o.lack
def lastOf (way : List Int) : Int := way.getLast?.getD (-1)
def wayOn (ps : List Pl) (w : Str) (way : List Int) : List (List Int) := (pfor ps (lastOf way) w).map fun n => way ++ [n]
def wayStep (ps : List Pl) (ways : List (List Int)) (w : Str) : List (List Int) := ways.flatMap (wayOn ps w)
def waysAt (ps : List Pl) (ws : List Str) : List (List Int) := ws.foldl (wayStep ps) [[]]
def laysP (ps : List Pl) (ws : List Str) : List (List Int) := (waysAt ps ws).filter fun way => mclose ps (lastOf way)
end LW
namespace LW
open PySem L2 PL
def cv (g h : List Str → Nat) : List Str → Nat
 | [] => g [] * h []
 | w :: ws => g [] * h (w :: ws) + cv (fun t => g (w :: t)) h ws
def Lk (ps : List Pl) (a b : Int) : Prop := ∀ (j : Nat) (q : Pl), a < j → (j : Int) < b → ps[j]? = some q → q.o.lack = true
def Goes (ps : List Pl) (last : Int) (w : Str) (n : Int) : Prop := ∃ k : Nat, n = k ∧ ∃ p, ps[k]? = some p ∧ p.k.holds w = true ∧ ((last = k ∧ p.o.again = true) ∨ (last < k ∧ Lk ps last k))
def OkW (ps : List Pl) : Int → List Str → List Int → Prop
 | last, [], [] => Lk ps last ps.length
 | last, w :: ws, n :: ns => Goes ps last w n ∧ OkW ps n ws ns
 | _, _, _ => False
end LW
namespace PL
open PySem L2
end PL
namespace PL
open PySem L2 PySem.Spec PyProof.Rows
end PL
namespace PL.SX
open PySem PySem.Calls PyProof.Rows PySem.Spec L2
def keyS (e : Int × Value) : Str := match e.2 with | .str k _ => k | _ => Str.empty
section
variable (P : Program) (w : World)
def GoodS (e : Int × Value) : Prop := ∃ k tk, e.2 = Value.str k tk ∧ e.1 = (PySem.strKind P w).hash k
def SetS (h : Heap) (a : Addr) (xs : List Str) : Prop :=
 ∃ o es ep t, h.get? a = some o ∧ o.ExactSet ∧ o.data = .set es ep t ∧ (∀ e ∈ es.toList, GoodS P w e) ∧ (es.toList.map keyS).Nodup ∧ (∀ k, k ∈ xs ↔ k ∈ es.toList.map keyS) ∧
  es.size < scanBound ∧ t.fits es.size = true ∧ Ris t.place.toList ∧ (w.params.followText "set-order" = true ∨ t.led = true)
end
section
variable {P : Program} {w : World} {h h' : Heap} {a : Addr} {xs : List Str}
theorem SetS.at (R : SetS P w h a xs) (k : ∀ o, h.get? a = some o → h'.get? a = some o) : SetS P w h' a xs := by
 obtain ⟨o, es, ep, t, ho, r⟩ := R
 exact ⟨o, es, ep, t, k o ho, r⟩
end
theorem nodup_len {α : Type} [DecidableEq α] {l xs : List α} (h : l.Nodup) (m : ∀ x ∈ l, x ∈ xs) : l.length ≤ xs.length := by
 induction l generalizing xs with
 | nil => exact Nat.zero_le _
 | cons x l ih =>
  obtain ⟨h1, h2⟩ := List.nodup_cons.mp h
  have hx := m x List.mem_cons_self
  have := ih (xs := xs.erase x) h2 fun y hy => (List.mem_erase_of_ne (fun e : y = x => h1 (by rw [← e]; exact hy))).mpr (m y (List.mem_cons_of_mem _ hy))
  have h3 := List.length_erase_of_mem hx
  have h4 : 0 < xs.length := List.length_pos_of_mem hx
  rw [List.length_cons]
  omega
end PL.SX
namespace PL.SX
open PySem PySem.Calls PyProof.Rows PySem.Spec L2
end PL.SX
namespace PL
open PySem PySem.Spec PyProof.Rows L2
end PL
namespace LW
open PySem L2 PL
structure Wx where
 name : Str
 letter : Option Str
 kind : Option Kd
 may : Bool
 many : Bool
 must : Bool
structure Tb where
 ws : List Wx
 ps : List Pl
 bs : List (Str × Str)
 ds : List (Str × Str)
def vi (ws : List Wx) : List Str := ws.map (·.name)
def nmW (ws : List Wx) (i : Nat) : Str := (vi ws).getD i "a"
def single : List Nat → Option Nat
 | [k] => some k
 | _ => none
def byPre (nms : List Str) (n : Str) : List Nat := (List.range nms.length).filter fun k => Txt.startswith (nms.getD k "a") n
def byName (nms : List Str) (n : Str) : Option Nat := if n ∈ nms then nms.findIdx? (fun z => z == n) else if n = "" then none else single (byPre nms n)
def byLetter (ls : List (Option Str)) (z : Str) : Option Nat := ls.findIdx? (fun o => o == some z)
def finV (ws : List Wx) (i : Nat) (v : Str) : Option (Nat × Str) := if v = "" then some (i, "") else match ws[i]? with
 | some w => (match w.kind with
  | some k => if k.holds v = true then some (i, v) else none
  | none => none)
 | none => none
def tellOf (ws : List Wx) (w : Str) : Option (Nat × Str) :=
 if Txt.startswith w "--" = true then
  (if (Txt.partition (cutS w (some 2) none) "=").2.1 ≠ "" ∧ (Txt.partition (cutS w (some 2) none) "=").2.2 = "" then none
   else match byName (vi ws) (Txt.partition (cutS w (some 2) none) "=").1 with
    | some i => finV ws i (Txt.partition (cutS w (some 2) none) "=").2.2
    | none => none)
 else match byLetter (ws.map (·.letter)) (cutS w (some 1) (some 2)) with
  | some i => finV ws i (cutS w (some 2) none)
  | none => none
abbrev Told := List (Nat × Str)
def bareW (w : Str) : Bool := !Txt.startswith w "-"
def mayV (one : Wx) (v : Str) : Bool := (!(v == "") || one.kind.isNone) || one.may
def nextV (one : Wx) (v : Str) (u : Str) : Bool := (v == "") && (bareW u && (match one.kind with
 | some k => k.holds u
 | none => false))
def parts (ws : List Wx) : List Str → List (Told × List Str)
 | [] => [([], [])]
 | w :: r => if w = "--" then [([], r)] else if bareW w = true then (parts ws r).map fun p => (p.1, w :: p.2)
  else match tellOf ws w with
   | none => []
   | some (i, v) => match ws[i]? with
    | none => []
    | some one => (if mayV one v = true then (parts ws r).map fun p => ((i, v) :: p.1, p.2) else []) ++
     (match r with
      | [] => []
      | u :: r' => if nextV one v u = true then (parts ws r').map fun p => ((i, u) :: p.1, p.2) else [])
def namesT (ws : List Wx) (t : Told) : List Str := t.map fun p => nmW ws p.1
def badN (nms : List Str) (w : Wx) : Bool := (decide (1 < nms.count w.name) && !w.many) || (w.must && !inW w.name nms)
def keptN (tb : Tb) (nms : List Str) : Bool := (!(tb.ws.any (badN nms)) && !(tb.bs.any fun p => inW p.1 nms && inW p.2 nms)) && (tb.ds.all fun p => !inW p.1 nms || inW p.2 nms)
def valsT (t : Told) (k : Nat) : List Str := (t.filter fun p => p.1 == k).map (·.2)
def tldL (ws : List Wx) (t : Told) (n : Nat) : List D := ((List.range n).filter fun k => !(valsT t k).isEmpty).map fun k => .tup [zs (nmW ws k), .tup ((valsT t k).map zs)]
def pick (l : List Str) (way : List Int) (j : Nat) : List Str := ((l.zip way).filter fun p => p.2 == (j : Int)).map (·.1)
def nmP (ps : List Pl) (i : Nat) : Str := (ps.map (·.name)).getD i "a"
def lidL (ps : List Pl) (l : List Str) (way : List Int) (n : Nat) : List D := ((List.range n).filter fun k => !(pick l way k).isEmpty).map fun k => .tup [zs (nmP ps k), .tup ((pick l way k).map zs)]
def reading (tb : Tb) (t : Told) (l : List Str) (way : List Int) : D := .tup [.tup (tldL tb.ws t tb.ws.length), .tup (lidL tb.ps l way tb.ps.length)]
def readsOf (tb : Tb) (p : Told × List Str) : List D := if keptN tb (namesT tb.ws p.1) = true then (laysP tb.ps p.2).map (reading tb p.1 p.2) else []
def readsU (tb : Tb) (row : List Str) : List D := (parts tb.ws row).flatMap (readsOf tb)
def reads (tb : Tb) (row : List Str) : List D := (readsU tb row).mergeSort dle
theorem okS_sub {z : Str} {a b : Nat} (h : okS z) : okS (Builtin.Str.strSub z a b) := okS_iff.mpr fun c m => okS_iff.mp h c (by
 unfold Builtin.Str.strSub at m
 rw [Array.toList_extract] at m
 exact List.mem_of_mem_drop (List.mem_of_mem_take m))
end LW
namespace LW
open PySem L2 PL
def NvD (d : D) : Prop := ∃ (z : Str) (vs : List Str), okS z ∧ (∀ v ∈ vs, okS v) ∧ d = .tup [zs z, .tup (vs.map zs)]
def RdD (d : D) : Prop := ∃ as bs : List D, (∀ a ∈ as, NvD a) ∧ (∀ b ∈ bs, NvD b) ∧ d = .tup [.tup as, .tup bs]
theorem zs_sh {vs : List Str} (h : ∀ v ∈ vs, okS v) : ∀ d ∈ vs.map zs, Sh 0 d := fun d m => by
 obtain ⟨v, hv, rfl⟩ := List.mem_map.mp m
 exact Sh.str (h v hv)
theorem NvD.in_sh {d : D} (h : NvD d) : ∃ xs, d = .tup xs ∧ ∀ x ∈ xs, Sh 1 x := by
 obtain ⟨z, vs, h1, h2, rfl⟩ := h
 refine ⟨_, rfl, fun x m => ?_⟩
 simp only [List.mem_cons, List.not_mem_nil, or_false] at m
 rcases m with rfl | rfl
 ·exact (Sh.str h1).mono (by decide)
 ·exact Sh.tup (zs_sh h2) (by decide)
theorem NvD.sh {d : D} (h : NvD d) : Sh 2 d := by
 obtain ⟨xs, rfl, hx⟩ := h.in_sh
 exact Sh.tup hx (by decide)
theorem RdD.in_sh {d : D} (h : RdD d) : ∃ xs, d = .tup xs ∧ ∀ x ∈ xs, Sh 3 x := by
 obtain ⟨as, bs, h1, h2, rfl⟩ := h
 refine ⟨_, rfl, fun x m => ?_⟩
 simp only [List.mem_cons, List.not_mem_nil, or_false] at m
 rcases m with rfl | rfl
 ·exact Sh.tup (fun a m => (h1 a m).sh) (by decide)
 ·exact Sh.tup (fun a m => (h2 a m).sh) (by decide)
theorem RdD.sh {d : D} (h : RdD d) : Sh 4 d := by
 obtain ⟨xs, rfl, hx⟩ := h.in_sh
 exact Sh.tup hx (by decide)
theorem py_strs {vs : List Str} (h : ∀ v ∈ vs, okS v) : py (.tup (vs.map zs)) = .tuple (vs.map .str) := by
 rw [yw fun d m => (zs_sh h d m).s, List.map_map]
 rfl
theorem NvD.py {z : Str} {vs : List Str} (h1 : okS z) (h2 : ∀ v ∈ vs, okS v) : PL.py (.tup [zs z, .tup (vs.map zs)]) = .tuple [.str z, .tuple (vs.map .str)] := by
 obtain ⟨xs, e, hx⟩ := NvD.in_sh ⟨z, vs, h1, h2, rfl⟩
 rw [yw fun d m => (by cases e; exact (hx d m).s), List.map_cons, List.map_cons, List.map_nil, py_strs h2]
 rfl
theorem RdD.py {as bs : List D} (h1 : ∀ a ∈ as, NvD a) (h2 : ∀ b ∈ bs, NvD b) : PL.py (.tup [.tup as, .tup bs]) = .tuple [.tuple (as.map PL.py), .tuple (bs.map PL.py)] := by
 obtain ⟨xs, e, hx⟩ := RdD.in_sh ⟨as, bs, h1, h2, rfl⟩
 rw [yw fun d m => (by cases e; exact (hx d m).s), List.map_cons, List.map_cons, List.map_nil, yw fun d m => ((h1 d m).sh).s, yw fun d m => ((h2 d m).sh).s]
open PySem.W (alike alikeAll)
theorem wam : ∀ xs ys : List Str, alikeAll (xs.map PyData.str) (ys.map PyData.str) = true
 | [], _ => by simp [alikeAll]
 | _ :: _, [] => by simp [alikeAll]
 | x :: xs, y :: ys => by
  rw [List.map_cons, List.map_cons, alikeAll, wam xs ys]
  simp [alike]
theorem NvD.alike {a b : D} (ha : NvD a) (hb : NvD b) : PySem.W.alike (PL.py a) (PL.py b) = true := by
 obtain ⟨z, vs, h1, h2, rfl⟩ := ha
 obtain ⟨y, us, h3, h4, rfl⟩ := hb
 rw [NvD.py h1 h2, NvD.py h3 h4]
 simp [PySem.W.alike, alikeAll, wam]
theorem zab : ∀ (as bs : List D), (∀ a ∈ as, NvD a) → (∀ b ∈ bs, NvD b) → alikeAll (as.map PL.py) (bs.map PL.py) = true
 | [], _, _, _ => by simp [alikeAll]
 | _ :: _, [], _, _ => by simp [alikeAll]
 | a :: as, b :: bs, h1, h2 => by
  rw [List.map_cons, List.map_cons, alikeAll, zab as bs (fun x m => h1 x (List.mem_cons_of_mem _ m)) (fun x m => h2 x (List.mem_cons_of_mem _ m)), (h1 a List.mem_cons_self).alike (h2 b List.mem_cons_self)]
  rfl
theorem RdD.alike {a b : D} (ha : RdD a) (hb : RdD b) : PySem.W.alike (PL.py a) (PL.py b) = true := by
 obtain ⟨as, bs, h1, h2, rfl⟩ := ha
 obtain ⟨cs, ds, h3, h4, rfl⟩ := hb
 rw [RdD.py h1 h2, RdD.py h3 h4]
 simp [PySem.W.alike, alikeAll, zab _ _ h1 h3, zab _ _ h2 h4]
theorem vab : ∀ xs ys : List Str, PyData.eqvAll (xs.map PyData.str) (ys.map PyData.str) = true → xs = ys
 | [], [], _ => rfl
 | [], _ :: _, h => by simp [PyData.eqvAll] at h
 | _ :: _, [], h => by simp [PyData.eqvAll] at h
 | x :: xs, y :: ys, h => by
  rw [List.map_cons, List.map_cons, PySem.W.eqv_all_cons, Bool.and_eq_true] at h
  rw [vab xs ys h.2, show x = y from by simpa [PyData.eqv] using h.1]
theorem NvD.eqv {a b : D} (ha : NvD a) (hb : NvD b) (h : PyData.eqv (PL.py a) (PL.py b) = true) : a = b := by
 obtain ⟨z, vs, h1, h2, rfl⟩ := ha
 obtain ⟨y, us, h3, h4, rfl⟩ := hb
 rw [NvD.py h1 h2, NvD.py h3 h4, ym, PySem.W.eqv_all_cons, PySem.W.eqv_all_cons, Bool.and_eq_true, Bool.and_eq_true, ym] at h
 rw [vab vs us h.2.1, show z = y from by simpa [PyData.eqv] using h.1]
theorem zay : ∀ (as bs : List D), (∀ a ∈ as, NvD a) → (∀ b ∈ bs, NvD b) → PyData.eqvAll (as.map PL.py) (bs.map PL.py) = true → as = bs
 | [], [], _, _, _ => rfl
 | [], _ :: _, _, _, h => by simp [PyData.eqvAll] at h
 | _ :: _, [], _, _, h => by simp [PyData.eqvAll] at h
 | a :: as, b :: bs, h1, h2, h => by
  rw [List.map_cons, List.map_cons, PySem.W.eqv_all_cons, Bool.and_eq_true] at h
  rw [zay as bs (fun x m => h1 x (List.mem_cons_of_mem _ m)) (fun x m => h2 x (List.mem_cons_of_mem _ m)) h.2, (h1 a List.mem_cons_self).eqv (h2 b List.mem_cons_self) h.1]
theorem RdD.eqv {a b : D} (ha : RdD a) (hb : RdD b) (h : PyData.eqv (PL.py a) (PL.py b) = true) : a = b := by
 obtain ⟨as, bs, h1, h2, rfl⟩ := ha
 obtain ⟨cs, ds, h3, h4, rfl⟩ := hb
 rw [RdD.py h1 h2, RdD.py h3 h4, ym, PySem.W.eqv_all_cons, PySem.W.eqv_all_cons, Bool.and_eq_true, Bool.and_eq_true, ym, ym] at h
 rw [zay _ _ h1 h3 h.1, zay _ _ h2 h4 h.2.1]
theorem toks_inj {x y : PyData} (ha : PySem.W.alike x y = true) (h : PySem.W.keyToks x = PySem.W.keyToks y) : PyData.eqv x y = true := by
 cases q : PyData.eqv x y with
 | true => rfl
 | false =>
  have h2 := (PySem.W.toks_eqv x y ha).2 q [] [.inl 0]
  rw [h, PySem.W.lex_pre, PyProof.Rows.lex_irrefl] at h2
  exact absurd h2 (by decide)
theorem vbl (a b : D) : dle a b = !(PyProof.Rows.lexLt PyProof.Rows.itemOrd (PySem.W.keyToks (PL.py b)) (PySem.W.keyToks (PL.py a))) := rfl
theorem dle_tr {a b c : D} (h1 : dle a b = true) (h2 : dle b c = true) : dle a c = true := by
 rw [vbl, Bool.not_eq_true'] at h1 h2 ⊢
 cases q : PyProof.Rows.lexLt PyProof.Rows.itemOrd (PySem.W.keyToks (PL.py c)) (PySem.W.keyToks (PL.py a)) with
 | false => rfl
 | true =>
  rcases PyProof.Rows.lex_negTrans _ (PySem.W.keyToks (PL.py b)) _ q with z | z
  ·rw [h2] at z; cases z
  ·rw [h1] at z; cases z
theorem vbq (a b : D) : (dle a b || dle b a) = true := by
 rw [vbl, vbl]
 cases q : PyProof.Rows.lexLt PyProof.Rows.itemOrd (PySem.W.keyToks (PL.py b)) (PySem.W.keyToks (PL.py a)) with
 | false => rfl
 | true =>
  cases q2 : PyProof.Rows.lexLt PyProof.Rows.itemOrd (PySem.W.keyToks (PL.py a)) (PySem.W.keyToks (PL.py b)) with
  | false => rfl
  | true =>
   have := PyProof.Rows.lex_trans _ _ _ q q2
   rw [PyProof.Rows.lex_irrefl] at this
   cases this
end LW
namespace LW
open PySem L2 PL
def GoesN (ps : List Pl) (last : Int) (w : Str) (n : Int) : Prop := ∃ k : Nat, n = k ∧ ∃ p, ps[k]? = some p ∧ p.k.holds w = true ∧ ((last = k ∧ p.o.again = true) ∨ last < k)
def StepN (ps : List Pl) : Int → List Str → List Int → Prop
 | _, [], [] => True
 | last, w :: ws, n :: ns => GoesN ps last w n ∧ StepN ps n ws ns
 | _, _, _ => False
theorem step_ge {ps : List Pl} : ∀ {ws : List Str} {ns : List Int} {last : Int}, StepN ps last ws ns → ∀ n ∈ ns, last ≤ n
 | [], [], last, h, n, m => absurd m List.not_mem_nil
 | w :: ws, n0 :: ns, last, h, n, m => by
  obtain ⟨⟨k, rfl, p, h1, h2, h3⟩, h4⟩ := h
  have : last ≤ (k : Int) := by rcases h3 with ⟨c, _⟩ | c <;> omega
  rcases List.mem_cons.mp m with rfl | m
  ·exact this
  ·have := step_ge h4 n m
   omega
 | [], n0 :: ns, last, h, n, m => by cases h
 | w :: ws, [], last, h, n, m => by cases h
def Wants (ps : List Pl) (last : Int) (ns : List Int) : Prop := ∀ (k : Nat) (q : Pl), last < k → ps[k]? = some q → q.o.lack = false → (k : Int) ∈ ns
theorem ok_all {ps : List Pl} : ∀ {ws : List Str} {ns : List Int} {last : Int}, OkW ps last ws ns ↔ StepN ps last ws ns ∧ Wants ps last ns
 | [], [], last => by
  constructor
  ·intro h
   refine ⟨trivial, fun k q k1 k2 k3 => ?_⟩
   have := h k q k1 (by have := (List.getElem?_eq_some_iff.mp k2).1; omega) k2
   rw [this] at k3
   cases k3
  ·rintro ⟨_, h⟩
   intro j q j1 j2 j3
   cases c : q.o.lack with
   | true => rfl
   | false => exact absurd (h j q j1 j3 c) List.not_mem_nil
 | w :: ws, n :: ns, last => by
  rw [OkW, StepN, ok_all (ws := ws)]
  constructor
  ·rintro ⟨⟨k, rfl, p, h1, h2, h3⟩, h4, h5⟩
   refine ⟨⟨⟨k, rfl, p, h1, h2, ?_⟩, h4⟩, fun j q j1 j2 j3 => ?_⟩
   ·rcases h3 with c | c
    ·exact .inl c
    ·exact .inr c.1
   ·rcases Nat.lt_trichotomy j k with c | c | c
    ·rcases h3 with ⟨c1, _⟩ | ⟨_, c2⟩
     ·omega
     ·have := c2 j q j1 (by omega) j2
      rw [this] at j3
      cases j3
    ·rw [c]; exact List.mem_cons_self
    ·exact List.mem_cons_of_mem _ (h5 j q (by omega) j2 j3)
  ·rintro ⟨⟨⟨k, rfl, p, h1, h2, h3⟩, h4⟩, h5⟩
   refine ⟨⟨k, rfl, p, h1, h2, ?_⟩, h4, fun j q j1 j2 j3 => ?_⟩
   ·rcases h3 with c | c
    ·exact .inl c
    ·refine .inr ⟨c, fun j q j1 j2 j3 => ?_⟩
     cases c2 : q.o.lack with
     | true => rfl
     | false =>
      rcases List.mem_cons.mp (h5 j q j1 j3 c2) with e | e
      ·omega
      ·have := step_ge h4 _ e
       omega
   ·have hl : last ≤ (k : Int) := by rcases h3 with ⟨c, _⟩ | c <;> omega
    rcases List.mem_cons.mp (h5 j q (by omega) j2 j3) with e | e
    ·omega
    ·exact e
 | [], n :: ns, last => by simp [OkW, StepN]
 | w :: ws, [], last => by simp [OkW, StepN]
end LW
namespace PL
open PySem L2
end PL
namespace PL
open PySem L2
end PL
namespace PL.TN
open PySem PySem.Calls PyProof.Rows PySem.Spec L2
def IsN (h : Heap) (k : NestedKey) (a : Addr) : Prop := NestedIs h k (.ref a) ∧ k.depth ≤ 8
theorem IsN.keep {h h' : Heap} {k : NestedKey} {a : Addr} (x : IsN h k a) (up : ∀ b o, h.get? b = some o → h'.get? b = some o) : IsN h' k a := ⟨NestedIs.at (fun b o _ _ e _ => up b o e) k _ x.1, x.2⟩
theorem IsN.same {h h' : Heap} {k : NestedKey} {a b : Addr} {o : Obj} {es : Array (Int × Value)} {ep : Nat} {t : SetTable} (x : IsN h k b) (g : h.get? a = some o) (d : o.data = .set es ep t) (sb : Heap.SameBut a h h') : IsN h' k b :=
 ⟨NestedIs.at (fun c u _ _ e z => by
  refine (sb.2 c fun q => ?_).trans e
  subst q
  rw [g] at e
  cases e
  rw [d] at z
  cases z) k _ x.1, x.2⟩
abbrev LK := List (Addr × NestedKey)
def hsN (w : World) (L : LK) : List Int := L.map fun p => p.2.hash w
def rowsN (w : World) (L : LK) : List (Int × Value) := L.map fun p => (p.2.hash w, Value.ref p.1)
theorem hsN_len {w : World} {L : LK} : (hsN w L).length = L.length := by unfold hsN; rw [List.length_map]
structure SetN (w : World) (h : Heap) (a : Addr) (L : LK) (es : Array (Int × Value)) (ep : Nat) (t : SetTable) : Prop where
 ob : ∃ o, h.get? a = some o ∧ o.ExactSet ∧ o.data = .set es ep t
 rw : es.toList = rowsN w L
 tb : TabOk t (hsN w L)
 nd : (L.map (·.2)).Nodup
 is : ∀ p ∈ L, IsN h p.2 p.1
 led : w.params.followText "set-order" = true ∨ t.led = true
 rm : L.length * 5 < t.mask * 3
 fw : L.length < 64
section
variable {P : Program} {w : World} {A : Around} {E : Value → Shared → Prop} {s : Shared} {a : Addr} {L : LK} {es : Array (Int × Value)} {ep : Nat} {t : SetTable}
theorem wa4 (e : es.toList = rowsN w L) : es.size = L.length := by
 have q := congrArg List.length e
 unfold rowsN at q
 rwa [Array.length_toList, List.length_map] at q
theorem fitsN (T : TabOk t (hsN w L)) (e : es.size = L.length) (m : L.length ≤ t.mask) : t.fits es.size = true := by
 have q := T.sz
 rw [hsN_len] at q
 unfold SetTable.fits SetTable.fill
 rw [T.dm, Bool.and_eq_true, beq_iff_eq, decide_eq_true_eq]
 refine ⟨by omega, ?_⟩
 show t.place.size + 0 ≤ t.mask
 omega
theorem SetN.fits (R : SetN w s.heap a L es ep t) : t.fits es.size = true := fitsN R.tb (wa4 R.rw) (by have := R.rm; omega)
theorem SetN.row (R : SetN w s.heap a L es ep t) {i : Nat} {p : Addr × NestedKey} (e : L[i]? = some p) : es[i]? = some (p.2.hash w, Value.ref p.1) := by
 rw [← Array.getElem?_toList, R.rw]
 unfold rowsN
 rw [List.getElem?_map, e]; rfl
end
end PL.TN
namespace PL.TN
open PySem PySem.Calls PyProof.Rows PySem.Spec L2 PL.SX
structure GotN (ks : LK) (i : Nat) (L : LK) : Prop where
 sub : ∀ p ∈ L, p ∈ ks.take i
 all : ∀ p ∈ ks.take i, p.2 ∈ L.map (·.2)
theorem take_one {α : Type} {l : List α} {i : Nat} {x : α} (e : l[i]? = some x) : l.take (i + 1) = l.take i ++ [x] := by
 rw [List.take_add_one, e]; rfl
theorem GotN.old {ks L : LK} {i : Nat} {x : Addr × NestedKey} (g : GotN ks i L) (e : ks[i]? = some x) (m : x.2 ∈ L.map (·.2)) : GotN ks (i + 1) L := by
 refine ⟨fun p q => ?_, fun p q => ?_⟩
 ·rw [take_one e]; exact List.mem_append_left _ (g.sub p q)
 ·rw [take_one e] at q
  rcases List.mem_append.mp q with z | z
  ·exact g.all p z
  ·rw [List.mem_singleton.mp z]; exact m
theorem GotN.new {ks L L' : LK} {i : Nat} {x : Addr × NestedKey} (g : GotN ks i L) (e : ks[i]? = some x) (pm : L'.Perm (x :: L)) : GotN ks (i + 1) L' := by
 refine ⟨fun p q => ?_, fun p q => ?_⟩
 ·rw [take_one e]
  rcases List.mem_cons.mp (pm.mem_iff.mp q) with z | z
  ·rw [z]; exact List.mem_append_right _ (List.mem_singleton.mpr rfl)
  ·exact List.mem_append_left _ (g.sub p z)
 ·rw [(pm.map (·.2)).mem_iff, List.map_cons]
  rw [take_one e] at q
  rcases List.mem_append.mp q with z | z
  ·exact List.mem_cons_of_mem _ (g.all p z)
  ·rw [List.mem_singleton.mp z]; exact List.mem_cons_self
section
variable {P : Program} {w : World} {A : Around} {E : Value → Shared → Prop} {s : Shared}
theorem SetN.at {h h' : Heap} {a : Addr} {L : LK} {es : Array (Int × Value)} {ep : Nat} {t : SetTable} (R : SetN w h a L es ep t) (up : ∀ o, h.get? a = some o → h'.get? a = some o) (is : ∀ p ∈ L, IsN h' p.2 p.1) : SetN w h' a L es ep t := by
 obtain ⟨o, e, r⟩ := R.ob
 exact ⟨⟨o, up o e, r⟩, R.rw, R.tb, R.nd, is, R.led, R.rm, R.fw⟩
end
end PL.TN
namespace PL
open PySem PySem.Spec PyProof.Rows L2 LW
open Classical in
noncomputable def nubC {α : Type} : List α → List α
 | [] => []
 | x :: xs => if x ∈ xs then nubC xs else x :: nubC xs
theorem mem_nubC {α : Type} {x : α} : ∀ {xs : List α}, x ∈ nubC xs ↔ x ∈ xs
 | [] => Iff.rfl
 | y :: xs => by
  unfold nubC
  split
  ·rename_i h
   rw [mem_nubC, List.mem_cons]
   exact ⟨.inr, fun z => z.elim (fun e => e ▸ h) id⟩
  ·rw [List.mem_cons, List.mem_cons, mem_nubC]
theorem xbc {α : Type} : ∀ xs : List α, (nubC xs).Nodup
 | [] => List.nodup_nil
 | y :: xs => by
  unfold nubC
  split
  ·exact xbc xs
  ·rename_i h
   exact List.nodup_cons.mpr ⟨fun m => h (mem_nubC.mp m), xbc xs⟩
end PL
namespace PL
open PySem PySem.Spec PyProof.Rows L2
end PL
namespace PL
open PySem PySem.Spec PyProof.Rows L2
end PL
namespace LW
open PySem L2 PL
structure Sta where
 told : List Str
 num : Int
 wait : Str
 stop : Bool
deriving DecidableEq
inductive Part where
 | value
 | place (j : Nat)
 | stop
 | wish (i : Nat) (v : Str)
deriving DecidableEq
def Sta.d (s : Sta) : D := .tup [.tup (s.told.map zs), zi s.num, zs s.wait, zb s.stop]
def sta0 : Sta := ⟨[], -1, "", false⟩
def waitW (tb : Tb) (s : Sta) : Option Wx := if s.wait = "" then none else tb.ws.find? (fun o => o.name == s.wait)
def wants (tb : Tb) (s : Sta) : Bool := match waitW tb s with
 | some o => !o.may
 | none => false
def setsL {α : Type} (xs : List α) : List (List α) := xs.foldl (fun acc x => acc ++ acc.map fun y => y ++ [x]) [[]]
def nmsI (ws : List Wx) (is : List Nat) : List Str := is.map (nmW ws)
def subB (xs ys : List Str) : Bool := xs.all fun z => inW z ys
def okSet (tb : Tb) (s : Sta) (is : List Nat) : Bool := (subB s.told (nmsI tb.ws is) && keptN tb (nmsI tb.ws is)) && (!s.stop || decide (is.length = s.told.length))
def goodB (tb : Tb) (s : Sta) : Bool := (setsL (List.range tb.ws.length)).any (okSet tb s)
def lackAll (ps : List Pl) (a b : Nat) : Bool := ((ps.drop a).take (b - a)).all fun p => p.o.lack
def laidC (ps : List Pl) (num : Int) (w : Str) (j : Nat) : Bool := match ps[j]? with
 | none => false
 | some p => (p.k.holds w && (decide (num < (j : Int)) || (decide (num = (j : Int)) && p.o.again))) && lackAll ps (num + 1).toNat j
def laidN (ps : List Pl) (num : Int) (w : Str) (n : Nat) : List Nat := (List.range n).filter (laidC ps num w)
def laidM (tb : Tb) (s : Sta) (w : Str) : List (Part × Sta) := (laidN tb.ps s.num w tb.ps.length).map fun j => (.place j, ⟨s.told, (j : Int), "", s.stop⟩)
def valueM (tb : Tb) (s : Sta) (w : Str) : List (Part × Sta) := match waitW tb s with
 | some o => (match o.kind with
  | some k => if k.holds w = true then [(.value, ⟨s.told, s.num, "", false⟩)] else []
  | none => [])
 | none => []
def toldS (tb : Tb) (s : Sta) (o : Wx) (v : Str) : Sta := ⟨(vi tb.ws).filter (fun n => inW n s.told || n == o.name), s.num, if o.kind.isSome = true ∧ v = "" then o.name else "", false⟩
def toldM (tb : Tb) (s : Sta) (w : Str) : List (Part × Sta) := match tellOf tb.ws w with
 | none => []
 | some (i, v) => match tb.ws[i]? with
  | none => []
  | some o => if (inW o.name s.told && !o.many) = true then [] else [(.wish i v, toldS tb s o v)]
def kan (tb : Tb) (s : Sta) (w : Str) : List (Part × Sta) :=
 if s.stop = true then laidM tb s w
 else if bareW w = true then valueM tb s w ++ (if wants tb s = true then [] else laidM tb s w)
 else if wants tb s = true then []
 else if w = "--" then [(.stop, ⟨s.told, s.num, "", true⟩)]
 else toldM tb s w
def yq (tb : Tb) (s : Sta) (w : Str) : List (Part × Sta) := (kan tb s w).filter fun m => goodB tb m.2
structure StOk (tb : Tb) (s : Sta) : Prop where
 td : s.told = (vi tb.ws).filter fun n => inW n s.told
 n0 : -1 ≤ s.num
 n1 : s.num < tb.ps.length
 w : s.wait = "" ∨ ∃ o ∈ tb.ws, o.name = s.wait ∧ o.kind.isSome = true ∧ s.wait ∈ s.told
def barB (tb : Tb) (fs : List Str) : Bool := tb.bs.any fun p => inW p.1 fs && inW p.2 fs
theorem StOk.nd {tb : Tb} {s : Sta} (hn : (vi tb.ws).Nodup) (h : StOk tb s) : s.told.Nodup := by
 rw [h.td]; exact List.Nodup.sublist List.filter_sublist hn
theorem wbn {ns told : List Str} (h : told = ns.filter fun n => inW n told) (p : Str → Bool) : ns.filter (fun n => inW n (ns.filter fun n => inW n told || p n)) = ns.filter fun n => inW n told || p n := by
 refine List.filter_congr fun n m => ?_
 rw [Bool.eq_iff_iff, inW_iff, List.mem_filter]
 exact ⟨fun z => z.2, fun z => ⟨m, z⟩⟩
theorem laidC_lt {ps : List Pl} {num : Int} {w : Str} {j : Nat} (h : laidC ps num w j = true) : j < ps.length ∧ num ≤ j := by
 unfold laidC at h
 split at h
 ·cases h
 ·rename_i p hp
  refine ⟨(List.getElem?_eq_some_iff.mp hp).1, ?_⟩
  rw [Bool.and_eq_true, Bool.and_eq_true, Bool.or_eq_true, Bool.and_eq_true, decide_eq_true_eq, decide_eq_true_eq] at h
  omega
theorem moves_ok {tb : Tb} {s : Sta} {w : Str} (h : StOk tb s) : ∀ m ∈ kan tb s w, StOk tb m.2 := fun m q => by
 have laid : ∀ m ∈ laidM tb s w, StOk tb m.2 := fun m q => by
  obtain ⟨j, hj, rfl⟩ := List.mem_map.mp q
  have := laidC_lt (List.mem_filter.mp hj).2
  exact ⟨h.td, by show (-1 : Int) ≤ (j : Int); omega, by show (j : Int) < _; omega, .inl rfl⟩
 unfold kan at q
 split at q
 ·exact laid m q
 split at q
 ·rcases List.mem_append.mp q with q | q
  ·unfold valueM at q
   split at q
   ·split at q
    ·split at q
     ·rw [List.mem_singleton.mp q]; exact ⟨h.td, h.n0, h.n1, .inl rfl⟩
     ·exact absurd q List.not_mem_nil
    ·exact absurd q List.not_mem_nil
   ·exact absurd q List.not_mem_nil
  ·split at q
   ·exact absurd q List.not_mem_nil
   ·exact laid m q
 split at q
 ·exact absurd q List.not_mem_nil
 split at q
 ·rw [List.mem_singleton.mp q]; exact ⟨h.td, h.n0, h.n1, .inl rfl⟩
 ·unfold toldM at q
  split at q
  ·exact absurd q List.not_mem_nil
  rename_i i v hiv
  split at q
  ·exact absurd q List.not_mem_nil
  rename_i o ho
  split at q
  ·exact absurd q List.not_mem_nil
  rw [List.mem_singleton.mp q]
  have hom := List.mem_of_getElem? ho
  refine ⟨(wbn h.td _).symm, h.n0, h.n1, ?_⟩
  have hw : (toldS tb s o v).wait = if o.kind.isSome = true ∧ v = "" then o.name else "" := rfl
  by_cases c : o.kind.isSome = true ∧ v = ""
  ·rw [if_pos c] at hw
   right
   refine ⟨o, hom, hw.symm, c.1, ?_⟩
   show (toldS tb s o v).wait ∈ _
   rw [hw]
   exact List.mem_filter.mpr ⟨List.mem_map_of_mem hom, by rw [beq_self_eq_true, Bool.or_true]⟩
  ·rw [if_neg c] at hw
   exact .inl hw
theorem xbk {tb : Tb} {s : Sta} {w : Str} (h : StOk tb s) : ∀ m ∈ yq tb s w, StOk tb m.2 := fun m q => moves_ok h m (List.mem_filter.mp q).1
end LW
namespace LW
open PySem L2 PL
open PySem.W (alike alikeAll)
structure StS (s : Sta) : Prop where
 t : ∀ z ∈ s.told, okS z
 w : okS s.wait
theorem Sta.in_sh {s : Sta} (h : StS s) : ∀ d ∈ [D.tup (s.told.map zs), zi s.num, zs s.wait, zb s.stop], Sh 1 d := fun d m => by
 simp only [List.mem_cons, List.not_mem_nil, or_false] at m
 rcases m with rfl | rfl | rfl | rfl
 ·exact Sh.tup (zs_sh h.t) (by decide)
 ·exact Sh.int.mono (by decide)
 ·exact (Sh.str h.w).mono (by decide)
 ·exact Sh.bl.mono (by decide)
theorem Sta.sh {s : Sta} (h : StS s) : Sh 2 s.d := Sh.tup (Sta.in_sh h) (by decide)
def Sta.pd (s : Sta) : PyData := .tuple [.tuple (s.told.map .str), .int s.num, .str s.wait, .bool s.stop]
theorem Sta.py {s : Sta} (h : StS s) : PL.py s.d = s.pd := by
 unfold Sta.d Sta.pd
 rw [yw fun d m => (Sta.in_sh h d m).s]
 show PyData.tuple [PL.py (.tup (s.told.map zs)), _, _, _] = _
 rw [py_strs h.t]; rfl
theorem Sta.al (s t : Sta) : alike s.pd t.pd = true := by
 unfold Sta.pd
 simp only [alike, alikeAll, wam, Bool.and_self, Bool.and_true]
theorem Sta.ev {s t : Sta} (h : PyData.eqv s.pd t.pd = true) : s = t := by
 unfold Sta.pd at h
 rw [ym] at h
 simp only [PyData.eqvAll, PyData.eqv, Bool.and_eq_true, Bool.and_true, beq_iff_eq, decide_eq_true_eq] at h
 obtain ⟨h1, h2, h3, h4⟩ := h
 obtain ⟨t1, n1, w1, b1⟩ := s
 obtain ⟨t2, n2, w2, b2⟩ := t
 have e1 := vab _ _ h1
 dsimp only at e1 h2 h3 h4
 subst e1 h2 h3 h4
 rfl
noncomputable def sortS (ss : List Sta) : List Sta := (nubC ss).mergeSort fun a b => dle a.d b.d
theorem mem_sortS {s : Sta} {ss : List Sta} : s ∈ sortS ss ↔ s ∈ ss := (List.mergeSort_perm _ _).mem_iff.trans mem_nubC
theorem nubC_perm {α : Type} {xs ys : List α} (m : ∀ s, s ∈ xs ↔ s ∈ ys) : (nubC xs).Perm (nubC ys) :=
 (List.perm_ext_iff_of_nodup (xbc xs) (xbc ys)).mpr fun s => (mem_nubC.trans (m s)).trans mem_nubC.symm
theorem dle_anti {s t : Sta} (hs : StS s) (ht : StS t) (h1 : dle s.d t.d = true) (h2 : dle t.d s.d = true) : s = t := by
 rw [vbl, Bool.not_eq_true'] at h1 h2
 have := toks_inj (x := PL.py s.d) (y := PL.py t.d) (by rw [Sta.py hs, Sta.py ht]; exact Sta.al s t) (PyProof.Rows.lex_total _ _ h2 h1)
 rw [Sta.py hs, Sta.py ht] at this
 exact Sta.ev this
theorem jbo {xs ys : List Sta} (hx : ∀ s ∈ xs, StS s) (m : ∀ s, s ∈ xs ↔ s ∈ ys) : sortS xs = sortS ys := by
 refine List.Perm.eq_of_pairwise (le := fun a b => dle a.d b.d = true) (fun a b m1 m2 => dle_anti (hx a (mem_sortS.mp m1)) (hx b ((m b).mpr (mem_sortS.mp m2)))) ?_ ?_ ((List.mergeSort_perm _ _).trans ((nubC_perm m).trans (List.mergeSort_perm _ _).symm))
 ·exact List.pairwise_mergeSort (le := fun a b : Sta => dle a.d b.d) (fun _ _ _ => dle_tr) (fun a b => vbq a.d b.d) (nubC xs)
 ·exact List.pairwise_mergeSort (le := fun a b : Sta => dle a.d b.d) (fun _ _ _ => dle_tr) (fun a b => vbq a.d b.d) (nubC ys)
end LW
namespace LW
open PySem L2 PL
def addT (ws : List Wx) (told : List Str) (z : Str) : List Str := (vi ws).filter fun n => inW n told || n == z
def KeepS (tb : Tb) (told : List Str) : Prop := (∀ w ∈ tb.ws, w.must = true → w.name ∈ told) ∧ barB tb told = false ∧ ∀ p ∈ tb.ds, p.1 ∈ told → p.2 ∈ told
end LW
namespace LW
open PySem L2 PL
def EndF (tb : Tb) : Sta → List Str → Prop
 | s, [] => wants tb s = false ∧ KeepS tb s.told ∧ mclose tb.ps s.num = true
 | s, w :: r => ∃ m ∈ kan tb s w, EndF tb m.2 r
end LW
namespace PL
open PySem L2
end PL
namespace PL
open PySem L2 PySem.Spec PyProof.Rows
end PL
namespace PL
open PySem L2 PySem.Spec PyProof.Rows
def At2 (σ : Sl) (js : List Nat) (xs : List V) : Prop := xs.length = js.length ∧ ∀ k j : Nat, js[k]? = some j → ∃ x, xs[k]? = some x ∧ σ[j]? = some (some x)
theorem At2.tl {σ : Sl} {j : Nat} {js : List Nat} {x : V} {xs : List V} (h : At2 σ (j :: js) (x :: xs)) : σ[j]? = some (some x) ∧ At2 σ js xs := by
 refine ⟨?_, by have := h.1; simp at this; exact this, fun k i hk => ?_⟩
 ·obtain ⟨y, h1, h2⟩ := h.2 0 j rfl
  simp at h1
  rw [h1]; exact h2
 ·obtain ⟨y, h1, h2⟩ := h.2 (k + 1) i (by simpa using hk)
  exact ⟨y, by simpa using h1, h2⟩
theorem At2.mk {σ : Sl} {j : Nat} {js : List Nat} {x : V} {xs : List V} (h0 : σ[j]? = some (some x)) (h : At2 σ js xs) : At2 σ (j :: js) (x :: xs) := by
 refine ⟨by simp [h.1], fun k i hk => ?_⟩
 cases k with
 | zero => simp at hk; subst hk; exact ⟨x, rfl, h0⟩
 | succ k => obtain ⟨y, h1, h2⟩ := h.2 k i (by simpa using hk); exact ⟨y, by simpa using h1, h2⟩
end PL
namespace PL
open PySem L2 PySem.Spec PyProof.Rows
def ownL1 (ρ : En) (j : Nat) : Bool := match ρ[j]? with
 | some (.own (.lst _)) => true
 | _ => false
def sClr (i : Nat) (js : List Nat) : P Fl := fun ρ => if js.all (ownL1 ρ) = true ∧ i < ρ.length then some (.ok .next (ρ.set i .no)) else none
def gShelf (i : Nat) : List Nat → List Nat → P Fl → P Fl
 | [], js, g => sSeq (sClr i js) g
 | j :: r, js, g => sSeq (zbj j (fLst vNil)) (gShelf i r js g)
end PL
namespace PL
open PySem L2 PySem.Spec PyProof.Rows
section
variable {QF : Fl → En → Prop} {QR : Rv → En → Prop} {E : Exn → En → Prop} {ρ : En} {i : Nat} {js : List Nat} {fl fe : PL.P Rv} {g : PL.P Fl}
theorem wbh {j : Nat} {r : List Nat} : wp (gShelf i (j :: r) js g) QF E ρ ↔ wp (sSeq (zbj j (fLst vNil)) (gShelf i r js g)) QF E ρ := Iff.rfl
end
end PL
namespace PL
open PySem L2 PySem.Spec PyProof.Rows
end PL
namespace LW
open PySem L2 PL TL
abbrev nS (i : Int) : Str := Str.ofString (toString i)
def Kd.tx : Kd → Str
 | .any => "any"
 | .num a b => (("number" : Str) ++ ("(" : Str) ++ Txt.join "," [nS a, nS b]) ++ (")" : Str)
 | .amg ws => (("among(" : Str) ++ Txt.join "," ws) ++ (")" : Str)
 | .beg z => (("begins" : Str) ++ ("(" : Str) ++ Txt.join "," [z]) ++ (")" : Str)
def ltW : Option Str → List Str
 | none => []
 | some z => [("-" : Str) ++ z]
def kdW (may : Bool) : Option Kd → List Str
 | none => []
 | some k => (if may = true then [("maybe" : Str)] else []) ++ [k.tx]
def Wx.words (w : Wx) : List Str := ((([("wish" : Str), w.name] ++ ltW w.letter) ++ kdW w.may w.kind) ++ (if w.many = true then [("many" : Str)] else [])) ++ (if w.must = true then [("must" : Str)] else [])
def Pl.words (p : Pl) : List Str := ["place", p.name, p.k.tx, p.o.s]
inductive Row where
 | w (w : Wx)
 | p (p : Pl)
 | b (p : Str × Str)
 | n (p : Str × Str)
def Row.words : Row → List Str
 | .w x => x.words
 | .p x => x.words
 | .b q => ["bar", q.1, q.2]
 | .n q => ["need", q.1, q.2]
def Tb.rows (tb : Tb) : List Row := tb.ws.map Row.w ++ tb.ps.map Row.p ++ tb.bs.map Row.b ++ tb.ds.map Row.n
def lineS (r : List Str) : Str := Txt.join " " r ++ ("\n" : Str)
def textS (rs : List (List Str)) : Str := Txt.join "" (rs.map lineS)
def Tb.text (tb : Tb) : Str := textS (tb.rows.map Row.words)
theorem kbk {S : List Nat} {c : Nat} : ∀ {ps : List (List Nat)}, c ∈ joinL S ps → c ∈ S ∨ ∃ p ∈ ps, c ∈ p
 | [], h => by cases h
 | [p], h => .inr ⟨p, List.mem_cons_self, h⟩
 | p :: q :: r, h => by
  rcases List.mem_append.mp h with h | h
  ·exact .inr ⟨p, List.mem_cons_self, h⟩
  ·rcases List.mem_append.mp h with h | h
   ·exact .inl h
   ·rcases kbk h with h | ⟨z, h1, h2⟩
    ·exact .inl h
    ·exact .inr ⟨z, List.mem_cons_of_mem _ h1, h2⟩
end LW
namespace PL
open PySem L2
end PL
namespace PL
open PySem L2
end PL
namespace LW
open PySem L2 PL TL
abbrev Ln := List Str × Option Row
def Ln.ws (l : Ln) : List Str := match l.2 with
 | none => []
 | some x => x.words
end LW
namespace LW
open PySem L2 PL
end LW
namespace PL
open PySem PySem.Spec PyProof.Rows L2
end PL
namespace PL
open PySem PySem.Spec PyProof.Rows L2
structure DefAtA (K : PySem.W.Frag) (g x : Str) (st : Stmt) (f : Addr) : Prop where
 at_ : PySem.W.nsIn K mainGlobals g = some (some (.ref f))
 kp : PySem.W.keepIn K (.ref f) = true
 ex : ∃ (oc : Value) (od : Option Addr) (dc pm : Value) (an : Option Addr) (cd ct : Value) (sl : Array (Option Value)) (kV : Value), K.lookup f = some ⟨oc, od, .func (PySem.W.fnOf x x (defArgs st) (defBody st) (defScope st) .none kV dc pm an cd ct), sl⟩ ∧ PySem.W.codeIn K cd x = true
theorem DefAtA.of {K : PySem.W.Frag} {g x : Str} {st : Stmt} {f : Addr} {oc : Value} {od : Option Addr} {dc pm : Value} {an : Option Addr} {cd ct : Value} {sl : Array (Option Value)} {kV : Value} (a : PySem.W.nsIn K mainGlobals g = some (some (.ref f))) (l : K.lookup f = some ⟨oc, od, .func (PySem.W.fnOf x x (defArgs st) (defBody st) (defScope st) .none kV dc pm an cd ct), sl⟩) (c : PySem.W.codeIn K cd x = true) (k : PySem.W.keepIn K (.ref f) = true) : DefAtA K g x st f :=
 ⟨a, k, _, _, _, _, _, _, _, _, _, l, c⟩
noncomputable def DefAtA.fd {K : PySem.W.Frag} {g x : Str} {st : Stmt} {f : Addr} (a : DefAtA K g x st f) : FuncData := Classical.choose (show ∃ fd, Fun K x x st f fd from by
 obtain ⟨oc, od, dc, pm, an, cd, ct, sl, kV, l, c⟩ := a.ex
 exact ⟨_, fun_mk l c a.kp⟩)
theorem DefAtA.fn {K : PySem.W.Frag} {g x : Str} {st : Stmt} {f : Addr} (a : DefAtA K g x st f) : Fun K x x st f a.fd := Classical.choose_spec (show ∃ fd, Fun K x x st f fd from by
 obtain ⟨oc, od, dc, pm, an, cd, ct, sl, kV, l, c⟩ := a.ex
 exact ⟨_, fun_mk l c a.kp⟩)
end PL
namespace PL
open PySem PySem.Spec PyProof.Rows L2
structure Cl where
 u : Value
 i : Option Nat
 ts : TS
end PL
namespace PL
open PySem PySem.Spec PyProof.Rows L2
end PL
namespace PL
open PySem PySem.Spec PyProof.Rows L2
end PL
namespace PL
open PySem L2
end PL
namespace LW
open PySem L2 PL TL
end LW
namespace LW
open PySem L2 PL TL
end LW
namespace PL
open PySem L2 PySem.Spec PyProof.Rows
end PL
namespace PL
open PySem PySem.Spec PyProof.Rows L2
end PL
namespace PL
open PySem L2
end PL
namespace PL
open PySem L2 PySem.Spec PyProof.Rows
section
variable {X : Cx} {pins : List (Addr × Obj)} {σ : L2.St} {H : Hp} {s : Shared}
mutual
theorem nk_is (I : Inv X pins σ H s) : ∀ (d : D) (k : NestedKey) (v : V) (u : Value), nkD d = some k → Is X.K H d v → RelV v u → NestedIs s.heap k u
 | .s x, k, v, u, h, i, r => by
  cases is_s_iff.mp i
  cases x with
  | non => unfold nkD at h; cases h; cases r; exact .none
  | bl b => unfold nkD at h; cases h; cases r; exact .bool rfl
  | int j => unfold nkD at h; cases h; obtain ⟨t, rfl⟩ := r; exact .int j t
  | str z => unfold nkD at h; cases h; obtain ⟨t, rfl⟩ := r; exact .text z t
  | _ => unfold nkD at h; cases h
 | .tup ds, k, v, u, h, i, r => by
  unfold nkD at h
  cases q : nkDs ds with
  | none => rw [q] at h; cases h
  | some ks =>
   rw [q] at h
   cases h
   obtain ⟨a, xs, rfl, hs, hi⟩ := yr i
   cases r
   obtain ⟨its, rv, ⟨o, ho, hc, n, hd⟩, _⟩ := I.tuple hs
   exact .tup ho hc hd (by simpa using nks_is I ds ks xs its q hi rv)
 | .lst ds, k, v, u, h, i, r => by unfold nkD at h; cases h
 | .obj c fs, k, v, u, h, i, r => by unfold nkD at h; cases h
 | .ro ds, k, v, u, h, i, r => by unfold nkD at h; cases h
 | .lam f φ z ks, k, v, u, h, i, r => by unfold nkD at h; cases h
 | .dic kvs, k, v, u, h, i, r => by unfold nkD at h; cases h
 | .exc c b fs, k, v, u, h, i, r => by unfold nkD at h; cases h
 | .lab _ _, k, v, u, h, i, r => by unfold nkD at h; cases h
theorem nks_is (I : Inv X pins σ H s) : ∀ (ds : List D) (ks : List NestedKey) (vs : List V) (us : List Value), nkDs ds = some ks → Iss X.K H ds vs → Vals vs us → NestedAll s.heap ks us
 | [], ks, vs, us, h, i, r => by
  unfold nkDs at h
  cases h
  cases iss_nil_iff.mp i
  cases r
  exact .nil
 | d :: ds, ks, vs, us, h, i, r => by
  obtain ⟨x, t, rfl, h1, h2⟩ := iss_cons_iff.mp i
  unfold nkDs at h
  cases q1 : nkD d with
  | none => rw [q1] at h; cases h
  | some k =>
   cases q2 : nkDs ds with
   | none => rw [q1, q2] at h; cases h
   | some ks' =>
    rw [q1, q2] at h
    cases h
    cases r with
    | cons r1 r2 => exact .cons (nk_is I d k _ _ q1 h1 r1) (nks_is I ds ks' _ _ q2 h2 r2)
end
end
def NIs (K : PySem.W.Frag) (H : Hp) (k : NestedKey) (b : Addr) : Prop := k.depth ≤ 8 ∧ ∃ d, nkD d = some k ∧ Is K H d (.ref b)
theorem NIs.is {X : Cx} {pins : List (Addr × Obj)} {σ : L2.St} {H : Hp} {s : Shared} {k : NestedKey} {b : Addr} (I : Inv X pins σ H s) (h : NIs X.K H k b) : (nestedKind X.prog X.w).is s.heap k b := by
 obtain ⟨h1, d, h2, h3⟩ := h
 exact ⟨nk_is I d k _ _ h2 h3 rfl, h1⟩
theorem ndat_at {P P2 : Program} {w w2 : World} {H : Hp} {h : Heap} {a b : Addr} {xs : NEnt} (ok : ObjOk P2 w2 H h a (.ext (NDat P w b xs))) : b = a := by
 obtain ⟨p, _, st⟩ := ok
 refine Classical.byContradiction fun hne => ?_
 let fr : Obj := { cls := .none, data := .freed }
 let h2 : Heap := { h with objs := h.objs.setIfInBounds b fr }
 have hb : h2.get? b = none := by
  unfold Heap.get?
  show (match (h.objs.setIfInBounds b fr)[b]? with | some ⟨_, _, .freed, _⟩ => none | o => o) = none
  by_cases c : b < h.objs.size
  ·rw [Array.getElem?_setIfInBounds_self_of_lt c]
  ·rw [Array.getElem?_eq_none (by rw [Array.size_setIfInBounds]; exact Nat.le_of_not_lt c)]
 have ha : ∀ o, h.get? a = some o → h2.get? a = some o := fun o e => by
  unfold Heap.get? at e ⊢
  show (match (h.objs.setIfInBounds b fr)[a]? with | some ⟨_, _, .freed, _⟩ => none | o => o) = some o
  rw [Array.getElem?_setIfInBounds_ne hne]
  exact e
 obtain ⟨o, es, ep, g, _⟩ := st h h2 p ha
 rw [hb] at g
 cases g
def NRd (K : PySem.W.Frag) (H : Hp) (P : Program) (w : World) (a : Addr) (xs : NEnt) : Prop := ∃ b, H a = some (.ext (NDat P w b xs)) ∧ (b == sysModules) = false ∧ (xs.map (·.1)).Nodup ∧ ∀ y ∈ xs, NIs K H y.1 y.2.1
theorem NRd.of {X : Cx} {pins : List (Addr × Obj)} {σ : L2.St} {H : Hp} {s : Shared} {a : Addr} {xs : NEnt} (I : Inv X pins σ H s) (h : NRd X.K H X.prog X.w a xs) : (a == sysModules) = false ∧ s.heap.DictOfH (nestedKind X.prog X.w) a xs ∧ H a = some (.ext (NDat X.prog X.w a xs)) := by
 obtain ⟨b, h1, h2, h3, h4⟩ := h
 have e := ndat_at (I.hok a _ h1)
 subst e
 obtain ⟨⟨o, es, ep, g1, g2, g3, g4⟩, _⟩ := I.hok b _ h1
 exact ⟨h2, ⟨o, es, ep, g1, g2, g3, g4, fun y m => (h4 y m).is I, h3⟩, h1⟩
end PL
namespace PL
open PySem L2 PySem.Spec PyProof.Rows
def nHas (kvs : List (D × D)) (k : NestedKey) : Bool := kvs.any fun kv => decide (nkD kv.1 = some k)
def nSet (kvs : List (D × D)) (kd : D) (k : NestedKey) (v : D) : List (D × D) :=
 if nHas kvs k = true then kvs.map (fun kv => if nkD kv.1 = some k then (kv.1, v) else kv) else kvs ++ [(kd, v)]
section
variable {K : PySem.W.Frag} {C H : Hp}
theorem NKs.length : ∀ {ds : List (D × D)} {xs : NEnt}, NKs K C ds xs → xs.length = ds.length
 | [], xs, h => by cases (show xs = [] from h); rfl
 | (a, b) :: ds, xs, h => by
  obtain ⟨k, ka, u, v, t, rfl, _, _, _, _, _, h7⟩ := h
  rw [List.length_cons, List.length_cons, NKs.length h7]
theorem NKs.has {k : NestedKey} : ∀ {ds : List (D × D)} {xs : NEnt}, NKs K C ds xs → (atKey xs k).isSome = nHas ds k
 | [], xs, h => by cases (show xs = [] from h); rfl
 | (a, b) :: ds, xs, h => by
  obtain ⟨k2, ka, u, v, t, rfl, h2, _, _, _, _, h7⟩ := h
  have ih := NKs.has (k := k) h7
  unfold atKey nHas at ih ⊢
  by_cases e : k2 = k
  ·simp [List.find?_cons, e, h2]
  ·simp only [List.find?_cons, List.any_cons, h2, Option.some.injEq, e, decide_false, Bool.false_or]
   exact ih
theorem NKs.set {k : NestedKey} {kd vd : D} {ka : Addr} {v : V} {u : Value} (hk : nkD kd = some k) (hd : k.depth ≤ 8) (hi : Is K C kd (.ref ka)) (hr : RelV v u) (hv : Is K C vd v) {ds : List (D × D)} {xs : NEnt} (h : NKs K C ds xs) : NKs K C (nSet ds kd k vd) (storedH xs k ka u) := by
 have upd : ∀ {ds : List (D × D)} {xs : NEnt}, NKs K C ds xs → NKs K C (ds.map fun kv => if nkD kv.1 = some k then (kv.1, vd) else kv) (xs.map (putAt k u)) := fun {ds} => by
  induction ds with
  | nil => intro xs h; cases (show xs = [] from h); rfl
  | cons p ds ih =>
   intro xs h
   obtain ⟨a, b⟩ := p
   obtain ⟨k2, ka2, u2, v2, t, rfl, h2, h3, h4, h5, h6, h7⟩ := h
   rw [List.map_cons, List.map_cons]
   by_cases e : k2 = k
   ·have e1 : putAt k u (k2, ka2, u2) = (k2, ka2, u) := by unfold putAt; rw [if_pos e]
    rw [e1, if_pos (by rw [h2, e])]
    exact ⟨k2, ka2, u, v, _, rfl, h2, h3, h4, hr, hv, ih h7⟩
   ·have e1 : putAt k u (k2, ka2, u2) = (k2, ka2, u2) := by unfold putAt; rw [if_neg e]
    rw [e1, if_neg (by rw [h2]; exact fun z => e (Option.some.inj z))]
    exact ⟨k2, ka2, u2, v2, _, rfl, h2, h3, h4, h5, h6, ih h7⟩
 have snoc : ∀ {ds : List (D × D)} {xs : NEnt}, NKs K C ds xs → NKs K C (ds ++ [(kd, vd)]) (xs ++ [(k, ka, u)]) := fun {ds} => by
  induction ds with
  | nil => intro xs h; cases (show xs = [] from h); exact ⟨k, ka, u, v, [], rfl, hk, hd, hi, hr, hv, rfl⟩
  | cons p ds ih =>
   intro xs h
   obtain ⟨a, b⟩ := p
   obtain ⟨k2, ka2, u2, v2, t, rfl, h2, h3, h4, h5, h6, h7⟩ := h
   exact ⟨k2, ka2, u2, v2, _, rfl, h2, h3, h4, h5, h6, ih h7⟩
 unfold nSet storedH
 rw [NKs.has h]
 by_cases q : nHas ds k = true
 ·rw [if_pos q, if_pos q]; exact upd h
 ·rw [if_neg q, if_neg q]; exact snoc h
end
def fNNew (P : Program) (w : World) : PL.P Rv := fun ρ => some (.ok (.new (.dn P w [])) ρ)
def nkOk (d : D) : Option NestedKey := match d with
 | .tup ds => (match nkD (.tup ds) with
  | some k => if k.depth ≤ 8 then some k else none
  | none => none)
 | _ => none
section
variable {K : PySem.W.Frag} {W : WX} {fx : List Nat} {P : Program} {w : World}
theorem nkOk_some {d : D} {k : NestedKey} (h : nkOk d = some k) : nkD d = some k ∧ k.depth ≤ 8 ∧ ∃ ds, d = .tup ds := by
 unfold nkOk at h
 cases d with
 | tup ds =>
  dsimp only at h
  cases q : nkD (.tup ds) with
  | none => rw [q] at h; cases h
  | some k2 =>
   rw [q] at h
   dsimp only at h
   by_cases c : k2.depth ≤ 8
   ·rw [if_pos c] at h; cases h; exact ⟨rfl, c, ds, rfl⟩
   ·rw [if_neg c] at h; cases h
 | _ => cases h
end
end PL
namespace PL
open PySem L2 PySem.Spec PyProof.Rows
section
variable {α : Type} {Q : α → En → Prop} {QR : Rv → En → Prop} {QF : Fl → En → Prop} {E : Exn → En → Prop} {ρ : En} {P : Program} {w : World}
theorem wp_nnew : wp (fNNew P w) QR E ρ ↔ QR (.new (.dn P w [])) ρ := Iff.rfl
end
end PL
namespace PL
open PySem L2 PySem.Spec PyProof.Rows
end PL
namespace PL
open PySem L2 PySem.Spec PyProof.Rows
section
variable {K : PySem.W.Frag} {W : WX} {P : Program} {w : World}
theorem EnvOk.cut {σ : Sl} {C H : Hp} {ρ : En} (e : EnvOk K C H σ ρ) (i : Nat) : EnvOk K C H σ (ρ.set i .no) := by
 have old : ∀ (j : Nat) (c : Cell), (ρ.set i .no)[j]? = some c → c = .no ∨ ρ[j]? = some c := fun j c h => by
  by_cases hj : i = j
  ·subst hj
   have : i < (ρ.set i .no).length := (List.getElem?_eq_some_iff.mp h).1
   rw [List.length_set] at this
   rw [List.getElem?_set_self this] at h
   cases h
   exact .inl rfl
  ·rw [List.getElem?_set_ne hj] at h
   exact .inr h
 refine ⟨by rw [List.length_set]; exact e.len, e.ext, fun j c h => ?_, fun j k m n a h1 h2 => ?_, e.tab⟩
 ·rcases old j c h with rfl | h'
  ·have hl : j < ρ.length := by have := (List.getElem?_eq_some_iff.mp h).1; rwa [List.length_set] at this
   obtain ⟨v, hv, _⟩ := e.cell j _ (List.getElem?_eq_getElem hl)
   exact ⟨v, hv, True.intro⟩
  ·exact e.cell j c h'
 ·rcases old j _ h1 with z | h1'
  ·cases z
  ·rcases old k _ h2 with z | h2'
   ·cases z
   ·exact e.inj j k m n a h1' h2'
theorem NKs.at {C : Hp} : ∀ {ds : List (D × D)} {xs : NEnt} {i : Nat} {d : D × D} {y : NestedKey × Addr × Value}, NKs K C ds xs → ds[i]? = some d → xs[i]? = some y → Is K C d.1 (.ref y.2.1) ∧ ∃ v, RelV v y.2.2 ∧ Is K C d.2 v
 | [], xs, i, d, y, h, h1, h2 => by simp at h1
 | (a, b) :: ds, xs, i, d, y, h, h1, h2 => by
  obtain ⟨k, ka, u, v, t, rfl, _, _, h4, h5, h6, h7⟩ := h
  cases i with
  | zero =>
   simp only [List.getElem?_cons_zero, Option.some.injEq] at h1 h2
   subst h1; subst h2
   exact ⟨h4, v, h5, h6⟩
  | succ j =>
   simp only [List.getElem?_cons_succ] at h1 h2
   exact NKs.at h7 h1 h2
def keysN (kvs : List (D × D)) : List D := kvs.map (·.1)
end
section
variable {QDs : List D → En → Prop} {QN : List (D × D) → En → Prop} {E : Exn → En → Prop} {ρ : En} {P : Program} {w : World}
def pinNQ (P : Program) (w : World) (i : Nat) (Q : List (D × D) → En → Prop) (ρ : En) : Cell → Prop
 | .own (.dn P' w' kvs) => (P' = P ∧ w' = w) ∧ Q kvs (ρ.set i .no)
 | _ => False
def wpPinN (P : Program) (w : World) (ρ : En) (r : Rv) (Q : List (D × D) → En → Prop) : Prop := match r with
 | .new (.dn P' w' kvs) => (P' = P ∧ w' = w) ∧ Q kvs ρ
 | .bor i => atS ρ i (pinNQ P w i Q ρ)
 | _ => False
theorem qa4 {i : Nat} : wpPinN P w ρ (.bor i) QN ↔ atS ρ i (pinNQ P w i QN ρ) := Iff.rfl
end
end PL
namespace PL
open PySem PySem.Spec PyProof.Rows L2 LW
end PL
namespace PL
open PySem PySem.Spec PyProof.Rows L2
section
variable {K : PySem.W.Frag} {W : WX} {P : Program} {w : World}
theorem NKs.keys {C : Hp} : ∀ {ds : List (D × D)} {xs : NEnt}, NKs K C ds xs → (keysN ds).map nkD = (xs.map (·.1)).map some
 | [], xs, h => by cases (show xs = [] from h); rfl
 | (a, b) :: ds, xs, h => by
  obtain ⟨k, ka, u, v, t, rfl, h2, _, h4, h5, h6, h7⟩ := h
  show nkD a :: (keysN ds).map nkD = some k :: (t.map (·.1)).map some
  rw [h2, NKs.keys h7]
theorem NKs.nd {C : Hp} {ds : List (D × D)} {xs : NEnt} (h : NKs K C ds xs) (n : (xs.map (·.1)).Nodup) : (keysN ds).Nodup := by
 have h1 : ((keysN ds).map nkD).Nodup := by
  rw [h.keys]
  exact List.Pairwise.map _ (fun a b c z => c (Option.some.inj z)) n
 exact List.Pairwise.of_map nkD (fun x y ne e => ne (by rw [e])) h1
end
end PL
namespace PL.SX
open PySem PySem.Calls PyProof.Rows PySem.Spec L2
end PL.SX
namespace PL
open PySem PySem.Spec PyProof.Rows L2 LW
end PL
namespace PL
open PySem L2 PySem.Spec PyProof.Rows
end PL
namespace PL
open PySem L2 PySem.Spec PyProof.Rows
end PL
namespace SG
open PySem L2 PL LW
local macro_rules | `(tactic| walk_at "w") => `(tactic| (try simp only [PL.wp_seq, PL.wp_set, PL.ja8, PL.wbe, PL.wp_op, PL.wp_un, PL.wp_var, PL.wp_c, PL.xaw, PL.kaw, PL.yar, PL.kar, PL.zar, PL.x7, PL.xar, PL.xas, PL.zas, PL.kas, PL.xav, PL.zav, PL.xba, PL.zba, PL.yav, PL.vav, PL.was, PL.jbc, PL.zbc, PL.qat, PL.qa8, PL.yaq, PL.qa9, PL.wp_brk, PL.ya9, PL.va9, PL.wau, PL.vai, PL.y6, PL.x6, PL.kah, PL.xah, PL.yaf, PL.jag, PL.waf, List.set_cons_zero, List.set_cons_succ, List.length_cons, List.length_nil, PL.addD, PL.subD, PL.zaq, PL.mulD, PL.modD, PL.za3, PL.wp_run, List.cons_append, List.nil_append, List.replicate, List.getElem?_cons_zero, List.getElem?_cons_succ, PL.za9, PL.xag, PL.q7, PL.vas, PL.kbe, PL.vbe, PL.isB_bl, PL.qbf, PL.wp_call, PL.wac, PL.wa7, PL.wp_ud, PL.wp_um, PL.kae, PL.yae, PL.vae, PL.kaj, PL.yaj, PL.vaj, PL.qaw, PL.zaw, PL.jaw, PL.wp_cb, PL.wp_nil, PL.wa9, PL.wae, PL.kad, PL.ya7, PL.vaq, PL.wp_tup, PL.wp_lst, PL.zaa, PL.wp_and, PL.wp_or, PL.wp_not, PL.jba, PL.wp_orV, PL.yba, PL.wa8, PL.wp_ifE, PL.jar, PL.wp_m1, PL.wp_zno, PL.wp_zat, PL.wp_sl, PL.wp_sif, PL.qad, PL.wp_ext, PL.ja9, PL.j5, PL.x4, PL.yad, PL.w4, PL.za8, PL.xo, PL.yas, PL.war, PL.xau, PL.jbf, PL.jaf, PL.qaf, PL.jbi, PL.aN_eq, PL.aT_tup, PL.vaw, PL.kbh, PL.z5, PL.x5, PL.qae, PL.wad, PL.wat, PL.qau, PL.ybd, PL.yat, PL.vbf, PL.qbd, PL.lt_int, PL.lt_str, PL.le_int, PL.gt_int, PL.ge_int, PL.kbd, PL.xbd, PL.vat, PL.kat, PL.vbd, PL.vba, PL.kba, PL.sl_lst, PL.sl_tup, PL.sl_ro, PL.sl_str, PL.neg_int, PL.is_bl, PL.jah, PL.is_none, PL.qt, PL.zat, PL.none_int, PL.none_str, PL.ybc, PL.xat, PL.jat, PL.zbh, PL.xbh, PL.xae, PL.y5, PL.yau, Nat.reduceAdd, Nat.reduceSub, Nat.zero_add, Bool.not_true, Bool.not_false, Bool.false_eq_true, if_true, if_false, PL.qba, PL.waa, PL.yg, decide_eq_true_eq, PL.zbe, PL.ixw_ro, PL.qbe, PL.jbe, PL.atI_0, PL.atI_1, PL.atI_2, PL.vau, PL.kau, PL.kag, PL.dv_dic, PL.wbf, PL.ybf, PL.dvQ_dk, PL.dvQ_dt, PL.qbg, PL.dGet_k, PL.dGet_t, PL.qar, PL.waq, PL.v5, PL.zau, PL.ka8, PL.jau, PL.wp_app,  PL.putQ_k, PL.putQ_t, PL.zad, PL.jad, PL.xad, PL.qbc, PL.inlQ_l, PL.va8, List.take_succ_cons, List.take_zero, Option.map_some, Option.map_none, PL.zf, PL.zd, PL.ke, PL.jk, PL.ji, PL.zm, PL.qi, PL.qk, PL.jm, PL.wh, PL.wj, PL.yh, PL.vh, PL.qh, PL.q8]))
local macro_rules | `(tactic| walk_at "fin") => `(tactic| first | trivial | rfl | decide | (simp; done) | omega)
section
variable {Q : Rv → En → Prop} {QF : Fl → En → Prop} {E : Exn → En → Prop}
def xr (a b : Str) : Bool := if a.length = b.length then strLt a b else decide (a.length < b.length)
def OkWd (w : Str) : Prop := okS w ∧ w.length ≤ 1000
def pr (w : Str) : D := .tup [zi w.length, zs w]
theorem pr_py {w : Str} (h : okS w) : py (pr w) = .tuple [.int w.length, .str w] := yw (fun d m => by
 simp only [List.mem_cons, List.not_mem_nil, or_false] at m
 rcases m with rfl | rfl
 ·exact qal
 ·exact shp_str.trans h)
def leA (a b : Str) : Bool := !xr b a
def leS (a b : Str) : Bool := !strLt b a
theorem nt {P : Prop} [Decidable P] {b : Bool} (h : (!decide P) = b) : b = true ↔ ¬ P := by
 rw [← h]; simp
theorem leS_iff {a b : Str} : leS a b = true ↔ ¬ b.cps.toList < a.cps.toList := by unfold leS strLt; simp
theorem leS_trans (a b c : Str) (h1 : leS a b = true) (h2 : leS b c = true) : leS a c = true := by
 rw [leS_iff] at h1 h2 ⊢
 exact List.not_lt.mpr (List.le_trans (List.not_lt.mp h1) (List.not_lt.mp h2))
theorem leS_total (a b : Str) : (leS a b || leS b a) = true := by
 rw [Bool.or_eq_true, leS_iff, leS_iff]
 rcases List.le_total a.cps.toList b.cps.toList with h | h
 ·exact .inl (List.not_lt.mpr h)
 ·exact .inr (List.not_lt.mpr h)
theorem leA_iff {a b : Str} : leA a b = true ↔ a.length < b.length ∨ (a.length = b.length ∧ leS a b = true) := by
 unfold leA xr
 by_cases c : b.length = a.length
 ·rw [if_pos c]
  constructor
  ·intro h; exact .inr ⟨c.symm, h⟩
  ·rintro (h | ⟨_, h⟩)
   ·omega
   ·exact h
 ·rw [if_neg c]
  simp
  constructor
  ·intro h; exact .inl (by omega)
  ·rintro (h | ⟨h, _⟩) <;> omega
theorem leA_trans (a b c : Str) (h1 : leA a b = true) (h2 : leA b c = true) : leA a c = true := by
 rw [leA_iff] at h1 h2 ⊢
 rcases h1 with h1 | ⟨h1, h3⟩
 ·rcases h2 with h2 | ⟨h2, h4⟩
  ·exact .inl (by omega)
  ·exact .inl (by omega)
 ·rcases h2 with h2 | ⟨h2, h4⟩
  ·exact .inl (by omega)
  ·exact .inr ⟨by omega, leS_trans a b c h3 h4⟩
theorem leA_total (a b : Str) : (leA a b || leA b a) = true := by
 rw [Bool.or_eq_true, leA_iff, leA_iff]
 rcases Nat.lt_trichotomy a.length b.length with h | h | h
 ·exact .inl (.inl h)
 ·have := leS_total a b
  rw [Bool.or_eq_true] at this
  rcases this with z | z
  ·exact .inl (.inr ⟨h, z⟩)
  ·exact .inr (.inr ⟨h.symm, z⟩)
 ·exact .inr (.inl h)
end
end SG
namespace SG
open PySem L2 PL LW
end SG
namespace SG
open PySem L2 PL LW
theorem sg_mem {z : Str} {c : Nat} (h : inS z c = true) : c ∈ z.cps.toList := Array.mem_toList_iff.mpr (Array.contains_iff.mp h)
end SG
namespace SG
open PySem L2 PL LW
theorem xam {w : Str} (h : goodW w = true) : (1 ≤ w.length ∧ w.length ≤ 60) ∧ z7 signsS w = true := by
 unfold goodW at h
 rw [Bool.and_eq_true, Bool.and_eq_true, decide_eq_true_iff, decide_eq_true_iff] at h
 exact h
theorem zbo : ∀ c ∈ signsS.cps.toList, c < 128 := by decide +kernel
theorem sg_okS {w : Str} (h : z7 signsS w = true) : okS w := okS_iff.mpr fun c m => by
 have := zbo c (sg_mem (List.all_eq_true.mp h c m))
 omega
structure Ws (w : Str) : Prop where
 s : z7 signsS w = true
 l0 : 1 ≤ w.length
 l1 : w.length ≤ 60
theorem Ws.of {w : Str} (h : goodW w = true) : Ws w := ⟨(xam h).2, (xam h).1.1, (xam h).1.2⟩
theorem Ws.ok {w : Str} (h : Ws w) : OkWd w := ⟨sg_okS h.s, by have := h.l1; omega⟩
end SG
namespace SG
open PySem L2 PL LW
structure KeyW {α : Type} (f : α → D) (k : α → NestedKey) (P : α → Prop) : Prop where
 ok : ∀ a, P a → nkOk (f a) = some (k a)
 inj : ∀ a b, P a → P b → k a = k b → a = b
variable {α : Type} [DecidableEq α] {f : α → D} {k : α → NestedKey} {P : α → Prop}
theorem KeyW.nk (h : KeyW f k P) {a : α} (ha : P a) : nkD (f a) = some (k a) := (nkOk_some (h.ok a ha)).1
theorem KeyW.has (h : KeyW f k P) {β : Type} {g : β → D} {kvs : List (α × β)} (hp : ∀ p ∈ kvs, P p.1) {a : α} (ha : P a) : nHas (kvs.map fun p => (f p.1, g p.2)) (k a) = kvs.any fun p => decide (p.1 = a) := by
 unfold nHas
 induction kvs with
 | nil => rfl
 | cons p kvs ih =>
  rw [List.map_cons, List.any_cons, List.any_cons, ih fun q m => hp q (List.mem_cons_of_mem _ m)]
  congr 1
  show decide (nkD (f p.1) = some (k a)) = decide (p.1 = a)
  rw [h.nk (hp p List.mem_cons_self)]
  by_cases c : p.1 = a
  ·rw [c, decide_eq_true rfl, decide_eq_true rfl]
  ·rw [decide_eq_false c, decide_eq_false fun z => c (h.inj _ _ (hp p List.mem_cons_self) ha (Option.some.inj z))]
def addA (acc : List α) (a : α) : List α := if a ∈ acc then acc else acc ++ [a]
theorem KeyW.set_add (h : KeyW f k P) {d : D} {ks : List α} (hp : ∀ a ∈ ks, P a) {a : α} (ha : P a) : nSet (ks.map fun x => (f x, d)) (f a) (k a) d = (addA ks a).map fun x => (f x, d) := by
 have e : nHas (ks.map fun x => (f x, d)) (k a) = decide (a ∈ ks) := by
  have := h.has (g := fun _ : Unit => d) (kvs := ks.map fun x => (x, ())) (fun p m => by obtain ⟨x, hx, rfl⟩ := List.mem_map.mp m; exact hp x hx) ha
  rw [List.map_map] at this
  rw [show ((fun p : α × Unit => (f p.1, d)) ∘ fun x => (x, ())) = fun x => (f x, d) from rfl] at this
  rw [this, List.any_map, Bool.eq_iff_iff, List.any_eq_true, decide_eq_true_iff]
  exact ⟨fun ⟨x, hx, z⟩ => (of_decide_eq_true z : x = a) ▸ hx, fun m => ⟨a, m, decide_eq_true rfl⟩⟩
 unfold nSet addA
 rw [e]
 by_cases c : a ∈ ks
 ·rw [if_pos (decide_eq_true c), if_pos c, List.map_map]
  refine List.map_congr_left fun x m => ?_
  show (if nkD (f x) = some (k a) then (f x, d) else (f x, d)) = _
  split <;> rfl
 ·rw [if_neg (by rw [decide_eq_false c]; decide), if_neg c, List.map_append]
  rfl
end SG
namespace SG
open PySem L2 PL LW
end SG
namespace SG
open PySem L2 PL LW
end SG
namespace SG
open PySem L2 PL LW
def subs {α : Type} : List α → List (List α)
 | [] => [[]]
 | x :: xs => (subs xs).map (x :: ·) ++ subs xs
theorem subs_len {α : Type} : ∀ xs : List α, (subs xs).length = 2 ^ xs.length
 | [] => rfl
 | x :: xs => by
  unfold subs
  rw [List.length_append, List.length_map, subs_len xs, List.length_cons, Nat.pow_succ]; omega
theorem zt {α : Type} (p : α → Bool) : ∀ xs : List α, xs.filter p ∈ subs xs
 | [] => List.mem_singleton.mpr rfl
 | x :: xs => by
  unfold subs
  rw [List.filter_cons]
  split
  ·exact List.mem_append_left _ (List.mem_map.mpr ⟨_, zt p xs, rfl⟩)
  ·exact List.mem_append_right _ (zt p xs)
def allSt (n : Nat) (t : List Str) (b : Bool) (x : Str) : List Sta := (List.range (n + 1)).flatMap fun (i : Nat) => [⟨t, (i : Int) - 1, "", b⟩, ⟨t, (i : Int) - 1, x, b⟩]
noncomputable def cands (ns : List Str) (n : Nat) : List (List Sta) := (subs ns).flatMap fun t => [false, true].flatMap fun b => (("" : Str) :: ns).flatMap fun x => (subs (allSt n t b x)).map sortS
theorem jt {α β : Type} {f : α → List β} {k : Nat} (h : ∀ a, (f a).length ≤ k) : ∀ l : List α, (l.flatMap f).length ≤ l.length * k
 | [] => Nat.zero_le _
 | a :: l => by
  have := jt h l
  have := h a
  rw [List.flatMap_cons, List.length_append, List.length_cons, Nat.succ_mul]; omega
structure Can (ns : List Str) (n : Nat) (ss : List Sta) : Prop where
 so : sortS ss = ss
 st : ∀ s ∈ ss, StS s
 ti : ∃ t b x, t ∈ subs ns ∧ x ∈ (("" : Str) :: ns) ∧ ∀ s ∈ ss, s.told = t ∧ s.stop = b ∧ (s.wait = "" ∨ s.wait = x) ∧ -1 ≤ s.num ∧ s.num < n
theorem Can.mem {ns : List Str} {n : Nat} {ss : List Sta} (h : Can ns n ss) : ss ∈ cands ns n := by
 obtain ⟨t, b, x, ht, hx, hs⟩ := h.ti
 unfold cands
 refine List.mem_flatMap.mpr ⟨t, ht, List.mem_flatMap.mpr ⟨b, by cases b <;> simp, List.mem_flatMap.mpr ⟨x, hx, List.mem_map.mpr ⟨(allSt n t b x).filter fun s => decide (s ∈ ss), zt _ _, ?_⟩⟩⟩⟩
 refine Eq.trans ?_ h.so
 refine (jbo h.st fun s => ?_).symm
 rw [List.mem_filter, decide_eq_true_iff]
 refine ⟨fun m => ⟨?_, m⟩, fun m => m.2⟩
 obtain ⟨h1, h2, h3, h4, h5⟩ := hs s m
 unfold allSt
 refine List.mem_flatMap.mpr ⟨(s.num + 1).toNat, List.mem_range.mpr (by omega), ?_⟩
 obtain ⟨st, sn, sw, sb⟩ := s
 have e : (((sn + 1).toNat : Nat) : Int) - 1 = sn := by
  have h4 : -1 ≤ sn := h4
  omega
 simp only [List.mem_cons, List.not_mem_nil, or_false]
 show _ ∨ _
 rw [show ((Sta.mk st sn sw sb).num + 1).toNat = (sn + 1).toNat from rfl, e]
 have h1 : st = t := h1
 have h2 : sb = b := h2
 subst h1
 subst h2
 rcases h3 with h3 | h3
 ·exact .inl (by rw [show sw = "" from h3])
 ·exact .inr (by rw [show sw = x from h3])
end SG
namespace SG
open PySem L2 PL LW
end SG
namespace PL
open PySem L2 PySem.Spec PyProof.Rows
def pairN : D → Option (D × NestedKey × D)
 | .tup [a, b] => (nkOk a).map fun k => (a, k, b)
 | _ => none
def pairsN : List D → Option (List (D × NestedKey × D))
 | [] => some []
 | d :: ds => match pairN d, pairsN ds with
  | some p, some ps => some (p :: ps)
  | _, _ => none
def putsN (kvs : List (D × D)) (ps : List (D × NestedKey × D)) : List (D × D) := ps.foldl (fun acc p => nSet acc p.1 p.2.1 p.2.2) kvs
def dictPD (P : Program) (w : World) : D → Option Rv
 | .lst ds => match pairsN ds with
  | some ps => some (.new (.dn P w (putsN [] ps)))
  | none => none
 | _ => none
end PL
namespace SG
open PySem L2 PL LW
abbrev Prs := Sta × Sta × Bool
noncomputable def sLt (a b : Sta) : Bool := PySem.W.dataLt a.pd b.pd
noncomputable def vax (a b : Sta) (f : Bool) : Prs := if f = true ∧ sLt b a = true then (b, a, true) else (a, b, f)
abbrev Wd := List (List Str × List Prs)
def qbo (ns : List Str) (n : Nat) : List Sta := (subs ns).flatMap fun t => [false, true].flatMap fun b => (("" : Str) :: ns).flatMap fun x => (List.range (n + 1)).map fun (i : Nat) => (⟨t, (i : Int) - 1, x, b⟩ : Sta)
theorem stAll_len {ns : List Str} {n : Nat} (h1 : ns.length ≤ 5) (h2 : n ≤ 4) : (qbo ns n).length ≤ 1920 := by
 have e1 : ∀ (t : List Str) (b : Bool) (x : Str), ((List.range (n + 1)).map fun (i : Nat) => (⟨t, (i : Int) - 1, x, b⟩ : Sta)).length ≤ 5 := fun t b x => by
  rw [List.length_map, List.length_range]; omega
 have e2 : ∀ (t : List Str) (b : Bool), ((("" : Str) :: ns).flatMap fun x => (List.range (n + 1)).map fun (i : Nat) => (⟨t, (i : Int) - 1, x, b⟩ : Sta)).length ≤ 6 * 5 := fun t b => by
  refine Nat.le_trans (jt (e1 t b) _) (Nat.mul_le_mul_right _ ?_)
  rw [List.length_cons]; omega
 have e3 : ∀ t : List Str, ([false, true].flatMap fun b => (("" : Str) :: ns).flatMap fun x => (List.range (n + 1)).map fun (i : Nat) => (⟨t, (i : Int) - 1, x, b⟩ : Sta)).length ≤ 2 * (6 * 5) := fun t => jt (e2 t) _
 refine Nat.le_trans (jt e3 _) ?_
 rw [subs_len]
 have : 2 ^ ns.length ≤ 2 ^ 5 := Nat.pow_le_pow_right (by decide) h1
 have := Nat.mul_le_mul_right (2 * (6 * 5)) this
 omega
theorem vbi {tb : Tb} {s : Sta} (h : StOk tb s) : s ∈ qbo (vi tb.ws) tb.ps.length := by
 have h1 := h.n0
 have h2 := h.n1
 obtain ⟨st, sn, sw, sb⟩ := s
 have hx : sw ∈ (("" : Str) :: vi tb.ws) := by
  rcases h.w with e | ⟨o, ho, e, _⟩
  ·rw [show sw = "" from e]; exact List.mem_cons_self
  ·exact List.mem_cons_of_mem _ (List.mem_map.mpr ⟨o, ho, e⟩)
 have ht : st ∈ subs (vi tb.ws) := by
  rw [show st = _ from h.td]; exact zt _ _
 unfold qbo
 refine List.mem_flatMap.mpr ⟨st, ht, List.mem_flatMap.mpr ⟨sb, by cases sb <;> simp, List.mem_flatMap.mpr ⟨sw, hx, List.mem_map.mpr ⟨(sn + 1).toNat, List.mem_range.mpr ?_, ?_⟩⟩⟩⟩
 ·have h1 : -1 ≤ sn := h1
  have h2 : sn < tb.ps.length := h2
  omega
 ·have h1 : -1 ≤ sn := h1
  rw [show (((sn + 1).toNat : Nat) : Int) - 1 = sn by omega]
def PrOk (tb : Tb) (p : Prs) : Prop := StOk tb p.1 ∧ StOk tb p.2.1
theorem prs_len {tb : Tb} (hT : tb.ws.length ≤ 5) (hp : tb.ps.length ≤ 4) {l : List Prs} (nd : l.Nodup) (h : ∀ p ∈ l, PrOk tb p) : l.length ≤ 7372800 := by
 have hs := stAll_len (ns := vi tb.ws) (n := tb.ps.length) (by unfold vi; rw [List.length_map]; exact hT) hp
 have e : l.length ≤ ((qbo (vi tb.ws) tb.ps.length).flatMap fun a => (qbo (vi tb.ws) tb.ps.length).flatMap fun b => [(a, b, false), (a, b, true)]).length := by
  refine SX.nodup_len nd fun p m => ?_
  obtain ⟨a, b, f⟩ := p
  have := h _ m
  exact List.mem_flatMap.mpr ⟨a, vbi this.1, List.mem_flatMap.mpr ⟨b, vbi this.2, by cases f <;> simp⟩⟩
 have e1 : ∀ a : Sta, ((qbo (vi tb.ws) tb.ps.length).flatMap fun b => [(a, b, false), (a, b, true)]).length ≤ 1920 * 2 := fun a => Nat.le_trans (jt (k := 2) (fun b => by simp) _) (Nat.mul_le_mul_right _ hs)
 have := jt e1 (qbo (vi tb.ws) tb.ps.length)
 have := Nat.mul_le_mul_right (1920 * 2) hs
 omega
structure DOk (tb : Tb) (q : Wd × List Prs) : Prop where
 w : ∀ x ∈ q.1, (∀ p ∈ x.2, PrOk tb p ∧ p ∈ q.2) ∧ x.1.length ≤ q.1.length
 nd : q.2.Nodup
 c : ∀ p ∈ q.2, PrOk tb p
 l : q.1.length ≤ q.2.length + 1
theorem DOk.len {tb : Tb} (hT : tb.ws.length ≤ 5) (hp : tb.ps.length ≤ 4) {q : Wd × List Prs} (h : DOk tb q) : q.2.length ≤ 7372800 ∧ q.1.length ≤ 7372801 := by
 have h1 := prs_len hT hp h.nd h.c
 have h2 := h.l
 exact ⟨h1, by omega⟩
end SG
namespace SG
open PySem L2 PL LW
theorem sum_congr {α : Type} {f g : α → Nat} {l : List α} (h : ∀ a ∈ l, f a = g a) : (l.map f).sum = (l.map g).sum := by rw [List.map_congr_left h]
theorem jbb {α : Type} {g : α → Nat} {l : List α} {a : α} (m : a ∈ l) : g a ≤ (l.map g).sum := by
 induction l with
 | nil => cases m
 | cons b l ih =>
  rw [List.map_cons, List.sum_cons]
  rcases List.mem_cons.mp m with e | m2
  ·rw [e]; omega
  ·have := ih m2
   omega
theorem sum_two {α : Type} {g : α → Nat} {l : List α} {a b : α} (ma : a ∈ l) (mb : b ∈ l) (h : a ≠ b) : g a + g b ≤ (l.map g).sum := by
 induction l with
 | nil => cases ma
 | cons c l ih =>
  rw [List.map_cons, List.sum_cons]
  rcases List.mem_cons.mp ma with ea | ma2
  ·rcases List.mem_cons.mp mb with eb | mb2
   ·exact absurd (ea.trans eb.symm) h
   ·have := jbb (g := g) mb2
    rw [ea]; omega
  ·rcases List.mem_cons.mp mb with eb | mb2
   ·have := jbb (g := g) ma2
    rw [eb]; omega
   ·have := ih ma2 mb2
    omega
def cntP (tb : Tb) (φ : Sta → Nat) : Sta → List Str → Nat
 | s, [] => φ s
 | s, w :: r => ((yq tb s w).map fun m => cntP tb φ m.2 r).sum
end SG
namespace SG
open PySem L2 PL LW
def nxt (tb : Tb) (t : List Str) (b : Bool) (w : Str) : List Str × Bool × Str :=
 if b = true then (t, true, "") else if bareW w = true then (t, false, "") else if w = "--" then (t, true, "")
 else match tellOf tb.ws w with
  | none => (t, false, "")
  | some (i, v) => match tb.ws[i]? with
   | none => (t, false, "")
   | some o => (addT tb.ws t o.name, false, if o.kind.isSome = true ∧ v = "" then o.name else "")
theorem mv_nxt {tb : Tb} {s : Sta} {w : Str} {m : Part × Sta} (h : m ∈ kan tb s w) : (m.2.told, m.2.stop, m.2.wait) = nxt tb s.told s.stop w := by
 have laid : m ∈ laidM tb s w → (m.2.told, m.2.stop, m.2.wait) = (s.told, s.stop, ("" : Str)) := fun h => by
  obtain ⟨j, _, rfl⟩ := List.mem_map.mp h
  rfl
 unfold kan at h
 unfold nxt
 cases hs : s.stop with
 | true =>
  rw [hs] at h laid
  rw [if_pos rfl] at h ⊢
  exact laid h
 | false =>
  rw [hs] at h laid
  rw [if_neg (by decide)] at h ⊢
  cases hb : bareW w with
  | true =>
   rw [hb, if_pos rfl] at h
   rw [if_pos rfl]
   rcases List.mem_append.mp h with h | h
   ·unfold valueM at h
    split at h
    ·split at h
     ·split at h
      ·rw [List.mem_singleton.mp h]
      ·cases h
     ·cases h
    ·cases h
   ·split at h
    ·cases h
    ·exact laid h
  | false =>
   rw [hb, if_neg (by decide)] at h
   rw [if_neg (by decide)]
   split at h
   ·cases h
   split at h
   ·rename_i c
    rw [if_pos c, List.mem_singleton.mp h]
   ·rename_i c
    rw [if_neg c]
    unfold toldM at h
    split at h
    ·cases h
    ·rename_i i v e
     try rw [e]
     try dsimp only
     split at h
     ·cases h
     ·rename_i o eo
      try rw [eo]
      try dsimp only
      split at h
      ·cases h
      ·rw [List.mem_singleton.mp h]
       rfl
theorem mv_num {tb : Tb} {s : Sta} {w : Str} {m : Part × Sta} (h : m ∈ kan tb s w) : s.num ≤ m.2.num ∧ m.2.num = (match m.1 with | .place j => (j : Int) | _ => s.num) := by
 have laid : m ∈ laidM tb s w → s.num ≤ m.2.num ∧ m.2.num = (match m.1 with | .place j => (j : Int) | _ => s.num) := fun h => by
  obtain ⟨j, hj, rfl⟩ := List.mem_map.mp h
  exact ⟨(laidC_lt (List.mem_filter.mp hj).2).2, rfl⟩
 unfold kan at h
 split at h
 ·exact laid h
 split at h
 ·rcases List.mem_append.mp h with h | h
  ·unfold valueM at h
   split at h
   ·split at h
    ·split at h
     ·rw [List.mem_singleton.mp h]; exact ⟨Int.le_refl _, rfl⟩
     ·cases h
    ·cases h
   ·cases h
  ·split at h
   ·cases h
   ·exact laid h
 split at h
 ·cases h
 split at h
 ·rw [List.mem_singleton.mp h]; exact ⟨Int.le_refl _, rfl⟩
 ·unfold toldM at h
  split at h
  ·cases h
  ·split at h
   ·cases h
   ·split at h
    ·cases h
    ·rw [List.mem_singleton.mp h]; exact ⟨Int.le_refl _, rfl⟩
theorem xax {a b : Sta} (h1 : a.told = b.told) (h2 : a.num = b.num) (h3 : a.wait = b.wait) (h4 : a.stop = b.stop) : a = b := by
 cases a; cases b
 simp only at h1 h2 h3 h4
 rw [h1, h2, h3, h4]
theorem slt_dle {a b : Sta} (ha : StS a) (hb : StS b) : sLt b a = !dle a.d b.d := by
 rw [vbl, Sta.py ha, Sta.py hb, Bool.not_not]
 rfl
structure Tw (tb : Tb) (p : Prs) : Prop where
 a : StOk tb p.1
 b : StOk tb p.2.1
 t : p.1.told = p.2.1.told
 s : p.1.stop = p.2.1.stop
 w : p.1.wait = p.2.1.wait
 e : p.2.2 = false → p.1 = p.2.1
 c : p.2.2 = true → dle p.1.d p.2.1.d = true
theorem Tw.put {tb : Tb} (hst : ∀ s, StOk tb s → StS s) {p : Prs} (h : Tw tb p) {w : Str} {m n : Part × Sta} (hm : m ∈ yq tb p.1 w) (hn : n ∈ yq tb p.2.1 w) : Tw tb (vax m.2 n.2 (p.2.2 || decide (m.1 ≠ n.1))) := by
 have hm0 := (List.mem_filter.mp hm).1
 have hn0 := (List.mem_filter.mp hn).1
 have e1 := mv_nxt hm0
 have e2 := mv_nxt hn0
 rw [← h.t, ← h.s, ← e1] at e2
 have e3 : n.2.told = m.2.told := congrArg (fun x : List Str × Bool × Str => x.1) e2
 have e4 : n.2.stop = m.2.stop := congrArg (fun x : List Str × Bool × Str => x.2.1) e2
 have e5 : n.2.wait = m.2.wait := congrArg (fun x : List Str × Bool × Str => x.2.2) e2
 have ka := xbk h.a m hm
 have kb := xbk h.b n hn
 unfold vax
 by_cases c : (p.2.2 || decide (m.1 ≠ n.1)) = true ∧ sLt n.2 m.2 = true
 ·rw [if_pos c]
  refine ⟨kb, ka, e3, e4, e5, (fun z => by cases z), fun _ => ?_⟩
  have h1 := c.2
  rw [slt_dle (hst _ ka) (hst _ kb), Bool.not_eq_true'] at h1
  have h2 := vbq m.2.d n.2.d
  rw [h1, Bool.false_or] at h2
  exact h2
 ·rw [if_neg c]
  refine ⟨ka, kb, e3.symm, e4.symm, e5.symm, fun z => ?_, fun z => ?_⟩
  ·have z : (p.2.2 || decide (m.1 ≠ n.1)) = false := z
   rw [Bool.or_eq_false_iff, decide_eq_false_iff_not, Decidable.not_not] at z
   have hab := h.e z.1
   have h1 := (mv_num hm0).2
   have h2 := (mv_num hn0).2
   rw [← hab, ← z.2, ← h1] at h2
   exact xax e3.symm h2.symm e5.symm e4.symm
  ·have z : (p.2.2 || decide (m.1 ≠ n.1)) = true := z
   have h1 : sLt n.2 m.2 = false := by rw [Bool.eq_false_iff]; exact fun q => c ⟨z, q⟩
   rw [slt_dle (hst _ ka) (hst _ kb), Bool.not_eq_false'] at h1
   exact h1
def rho (p : Prs) : Nat := p.1.told.length + (if p.1.stop = true then 1 else 0) + ((p.1.num + 1).toNat + (p.2.1.num + 1).toNat) + (if p.2.2 = true then 1 else 0)
structure SameL (p q : Prs) : Prop where
 t : p.1.told = q.1.told
 s : p.1.stop = q.1.stop
 f : p.2.2 = q.2.2
 n : (p.1.num = q.1.num ∧ p.2.1.num = q.2.1.num) ∨ (p.1.num = q.2.1.num ∧ p.2.1.num = q.1.num)
theorem SameL.trans {p q r : Prs} (h : SameL p q) (k : SameL q r) : SameL p r := ⟨h.t.trans k.t, h.s.trans k.s, h.f.trans k.f, by
 rcases h.n with ⟨h1, h2⟩ | ⟨h1, h2⟩ <;> rcases k.n with ⟨k1, k2⟩ | ⟨k1, k2⟩
 ·exact .inl ⟨h1.trans k1, h2.trans k2⟩
 ·exact .inr ⟨h1.trans k1, h2.trans k2⟩
 ·exact .inr ⟨h1.trans k2, h2.trans k1⟩
 ·exact .inl ⟨h1.trans k2, h2.trans k1⟩⟩
theorem SameL.rho {p q : Prs} (h : SameL p q) : SG.rho p = SG.rho q := by
 unfold SG.rho
 rw [h.t, h.s, h.f]
 rcases h.n with ⟨h1, h2⟩ | ⟨h1, h2⟩
 ·rw [h1, h2]
 ·rw [h1, h2]; omega
def LeL (p q : Prs) : Prop := SameL p q ∨ SG.rho p < SG.rho q
theorem LeL.trans {p q r : Prs} (h : LeL p q) (k : LeL q r) : LeL p r := by
 rcases h with h | h <;> rcases k with k | k
 ·exact .inl (h.trans k)
 ·right; rw [h.rho]; exact k
 ·right; rw [← k.rho]; exact h
 ·right; omega
theorem Tw.inj {tb : Tb} (hst : ∀ s, StOk tb s → StS s) {p q : Prs} (h : Tw tb p) (k : Tw tb q) (l : SameL p q) (w : p.1.wait = q.1.wait) : p = q := by
 obtain ⟨a, b, f⟩ := p
 obtain ⟨c, d, g⟩ := q
 obtain ⟨t1, s1, f1, n1⟩ := l
 have ht := h.t
 have hs := h.s
 have hw := h.w
 have kt := k.t
 have ks := k.s
 have kw := k.w
 dsimp only at *
 subst f1
 rcases n1 with ⟨n1, n2⟩ | ⟨n1, n2⟩
 ·have e1 : a = c := xax t1 n1 w s1
  have e2 : b = d := xax (ht.symm.trans (t1.trans kt)) n2 (hw.symm.trans (w.trans kw)) (hs.symm.trans (s1.trans ks))
  rw [e1, e2]
 ·have e1 : a = d := xax (t1.trans kt) n1 (w.trans kw) (s1.trans ks)
  have e2 : b = c := xax (ht.symm.trans t1) n2 (hw.symm.trans w) (hs.symm.trans s1)
  cases hf : f with
  | false =>
   have z : a = b := h.e hf
   rw [← e1, ← e2, z]
  | true =>
   have z1 : dle a.d b.d = true := h.c hf
   have z2 : dle c.d d.d = true := k.c hf
   rw [← e1, ← e2] at z2
   have z := dle_anti (hst a h.a) (hst b h.b) z1 z2
   rw [← e1, ← e2, z]
theorem add_len {tb : Tb} {t : List Str} (hn : (vi tb.ws).Nodup) (ht : t = (vi tb.ws).filter fun n => inW n t) {z : Str} (hz : z ∈ vi tb.ws) : addT tb.ws t z = t ∨ t.length < (addT tb.ws t z).length := by
 by_cases c : z ∈ t
 ·left
  have e : addT tb.ws t z = (vi tb.ws).filter fun n => inW n t := List.filter_congr fun n _ => by
   rw [Bool.eq_iff_iff, Bool.or_eq_true, beq_iff_eq]
   exact ⟨fun h => h.elim id fun e => by rw [e]; exact inW_iff.mpr c, .inl⟩
  rw [e]; exact ht.symm
 ·right
  have hd : t.Nodup := by rw [ht]; exact List.Nodup.sublist List.filter_sublist hn
  have : (z :: t).length ≤ (addT tb.ws t z).length := SX.nodup_len (List.nodup_cons.mpr ⟨c, hd⟩) fun x m => by
   refine List.mem_filter.mpr ?_
   rcases List.mem_cons.mp m with rfl | m
   ·exact ⟨hz, by rw [beq_self_eq_true, Bool.or_true]⟩
   ·refine ⟨?_, by rw [inW_iff.mpr m, Bool.true_or]⟩
    rw [ht] at m
    exact (List.mem_filter.mp m).1
  rw [List.length_cons] at this
  omega
theorem nxt_told {tb : Tb} (hn : (vi tb.ws).Nodup) {s : Sta} (hs : StOk tb s) {w : Str} : ((nxt tb s.told s.stop w).1 = s.told ∨ s.told.length < (nxt tb s.told s.stop w).1.length) ∧ (s.stop = true → (nxt tb s.told s.stop w).2.1 = true) := by
 unfold nxt
 split
 ·exact ⟨.inl rfl, fun _ => rfl⟩
 rename_i c
 refine ⟨?_, fun z => absurd z c⟩
 split
 ·exact .inl rfl
 split
 ·exact .inl rfl
 split
 ·exact .inl rfl
 split
 ·exact .inl rfl
 ·rename_i o ho
  exact add_len hn hs.td (List.mem_map.mpr ⟨o, List.mem_of_getElem? ho, rfl⟩)
theorem Tw.le {tb : Tb} (hn : (vi tb.ws).Nodup) {p : Prs} (h : Tw tb p) {w : Str} {m n : Part × Sta} (hm : m ∈ yq tb p.1 w) (hn2 : n ∈ yq tb p.2.1 w) : LeL p (vax m.2 n.2 (p.2.2 || decide (m.1 ≠ n.1))) := by
 have hm0 := (List.mem_filter.mp hm).1
 have hn0 := (List.mem_filter.mp hn2).1
 have e1 := mv_nxt hm0
 have e2 := mv_nxt hn0
 rw [← h.t, ← h.s, ← e1] at e2
 have e3 : n.2.told = m.2.told := congrArg (fun x : List Str × Bool × Str => x.1) e2
 have e4 : n.2.stop = m.2.stop := congrArg (fun x : List Str × Bool × Str => x.2.1) e2
 obtain ⟨t1, t2⟩ := nxt_told hn h.a (w := w)
 rw [← e1] at t1 t2
 have t1 : m.2.told = p.1.told ∨ p.1.told.length < m.2.told.length := t1
 have t2 : p.1.stop = true → m.2.stop = true := t2
 have n1 := (mv_num hm0).1
 have n2 := (mv_num hn0).1
 have a0 := h.a.n0
 have b0 := h.b.n0
 have key : LeL p (m.2, n.2, (p.2.2 || decide (m.1 ≠ n.1))) := by
  by_cases c : m.2.told = p.1.told ∧ m.2.stop = p.1.stop ∧ m.2.num = p.1.num ∧ n.2.num = p.2.1.num ∧ (p.2.2 || decide (m.1 ≠ n.1)) = p.2.2
  ·exact .inl ⟨c.1.symm, c.2.1.symm, c.2.2.2.2.symm, .inl ⟨c.2.2.1.symm, c.2.2.2.1.symm⟩⟩
  ·right
   unfold SG.rho
   dsimp only
   have hs : (if p.1.stop = true then 1 else 0) ≤ (if m.2.stop = true then 1 else 0) ∧ (m.2.stop ≠ p.1.stop → (if p.1.stop = true then 1 else 0) < (if m.2.stop = true then 1 else 0)) := by
    cases q : p.1.stop with
    | true => rw [t2 q]; exact ⟨Nat.le_refl _, fun z => absurd rfl z⟩
    | false => cases m.2.stop <;> simp
   have hf : (if p.2.2 = true then 1 else 0) ≤ (if (p.2.2 || decide (m.1 ≠ n.1)) = true then 1 else 0) ∧ ((p.2.2 || decide (m.1 ≠ n.1)) ≠ p.2.2 → (if p.2.2 = true then 1 else 0) < (if (p.2.2 || decide (m.1 ≠ n.1)) = true then 1 else 0)) := by
    cases p.2.2 <;> cases decide (m.1 ≠ n.1) <;> simp
   have ht : p.1.told.length ≤ m.2.told.length ∧ (m.2.told ≠ p.1.told → p.1.told.length < m.2.told.length) := by
    rcases t1 with z | z
    ·rw [z]; exact ⟨Nat.le_refl _, fun q => absurd rfl q⟩
    ·exact ⟨by omega, fun _ => z⟩
   generalize (if p.1.stop = true then 1 else 0) = x1 at hs ⊢
   generalize (if m.2.stop = true then 1 else 0) = x2 at hs ⊢
   generalize (if p.2.2 = true then 1 else 0) = y1 at hf ⊢
   generalize (if (p.2.2 || decide (m.1 ≠ n.1)) = true then 1 else 0) = y2 at hf ⊢
   by_cases c1 : m.2.told = p.1.told
   ·by_cases c2 : m.2.stop = p.1.stop
    ·by_cases c3 : (p.2.2 || decide (m.1 ≠ n.1)) = p.2.2
     ·have : ¬ (m.2.num = p.1.num ∧ n.2.num = p.2.1.num) := fun z => c ⟨c1, c2, z.1, z.2, c3⟩
      omega
     ·have := hf.2 c3
      omega
    ·have := hs.2 c2
     omega
   ·have := ht.2 c1
    omega
 unfold vax
 by_cases c : (p.2.2 || decide (m.1 ≠ n.1)) = true ∧ sLt n.2 m.2 = true
 ·rw [if_pos c]
  have sw : SameL (m.2, n.2, (p.2.2 || decide (m.1 ≠ n.1))) (n.2, m.2, true) := ⟨e3.symm, e4.symm, c.1, .inr ⟨rfl, rfl⟩⟩
  exact key.trans (.inl sw)
 ·rw [if_neg c]; exact key
structure ChOk (tb : Tb) (p : Prs) (c : List Prs) : Prop where
 tw : ∀ q ∈ p :: c, Tw tb q
 pw : (p :: c).Pairwise fun y x => y ≠ x ∧ LeL x y
theorem ChOk.len {tb : Tb} (hst : ∀ s, StOk tb s → StS s) {p : Prs} {c : List Prs} (h : ChOk tb p c) : (p :: c).length ≤ 1 + (tb.ws.length + 1 + 2 * tb.ps.length + 1) * (tb.ws.length + 1) := by
 have hnd : ((p :: c).map fun q => (SG.rho q, q.1.wait)).Nodup := by
  refine List.pairwise_map.mpr (List.Pairwise.imp_of_mem (fun {a b} ma mb hab e => ?_) h.pw)
  have e1 : SG.rho a = SG.rho b := congrArg (fun x : Nat × Str => x.1) e
  have e2 : a.1.wait = b.1.wait := congrArg (fun x : Nat × Str => x.2) e
  rcases hab.2 with l | l
  ·exact hab.1 ((Tw.inj hst (h.tw b mb) (h.tw a ma) l e2.symm).symm)
  ·omega
 have hsub : ∀ x ∈ (p :: c).map fun q => (SG.rho q, q.1.wait), x ∈ ((0, ("" : Str)) :: (List.range (tb.ws.length + 1 + 2 * tb.ps.length + 1)).flatMap fun i => (("" : Str) :: vi tb.ws).map fun z => (i + 1, z)) := fun x m => by
  obtain ⟨q, hq, rfl⟩ := List.mem_map.mp m
  have hT := h.tw q hq
  have hw : q.1.wait = "" ∨ (q.1.wait ∈ vi tb.ws ∧ q.1.wait ∈ q.1.told) := by
   rcases hT.a.w with e | ⟨o, ho, e, _, mm⟩
   ·exact .inl e
   ·exact .inr ⟨List.mem_map.mpr ⟨o, ho, e⟩, mm⟩
  have hr : SG.rho q ≤ tb.ws.length + 1 + 2 * tb.ps.length + 1 := by
   unfold SG.rho
   have h1 : q.1.told.length ≤ tb.ws.length := by
    rw [hT.a.td]
    have := List.length_filter_le (fun n => inW n q.1.told) (vi tb.ws)
    have e : (vi tb.ws).length = tb.ws.length := List.length_map ..
    omega
   have h2 := hT.a.n1
   have h3 := hT.b.n1
   have h4 : (if q.1.stop = true then 1 else 0) ≤ 1 := by split <;> decide
   have h5 : (if q.2.2 = true then 1 else 0) ≤ 1 := by split <;> decide
   omega
  by_cases z : SG.rho q = 0
  ·have : q.1.told.length = 0 := by
    unfold SG.rho at z
    omega
   have hw2 : q.1.wait = "" := by
    rcases hw with e | ⟨_, mm⟩
    ·exact e
    ·rw [List.length_eq_zero_iff.mp this] at mm
     cases mm
   rw [z, hw2]
   exact List.mem_cons_self
  ·refine List.mem_cons_of_mem _ (List.mem_flatMap.mpr ⟨SG.rho q - 1, List.mem_range.mpr (by omega), List.mem_map.mpr ⟨q.1.wait, ?_, ?_⟩⟩)
   ·rcases hw with e | ⟨mm, _⟩
    ·rw [e]; exact List.mem_cons_self
    ·exact List.mem_cons_of_mem _ mm
   ·rw [show SG.rho q - 1 + 1 = SG.rho q by omega]
 have := SX.nodup_len hnd hsub
 rw [List.length_map] at this
 refine Nat.le_trans this ?_
 rw [List.length_cons]
 have hf := jt (f := fun i : Nat => (("" : Str) :: vi tb.ws).map fun z => (i + 1, z)) (k := tb.ws.length + 1) (fun i => by rw [List.length_map, List.length_cons]; unfold vi; rw [List.length_map]; exact Nat.le_refl _) (List.range (tb.ws.length + 1 + 2 * tb.ps.length + 1))
 rw [List.length_range] at hf
 omega
theorem ChOk.step {tb : Tb} (hst : ∀ s, StOk tb s → StS s) (hn : (vi tb.ws).Nodup) {p : Prs} {c : List Prs} (h : ChOk tb p c) {w : Str} {m n : Part × Sta} (hm : m ∈ yq tb p.1 w) (hn2 : n ∈ yq tb p.2.1 w) (hf : vax m.2 n.2 (p.2.2 || decide (m.1 ≠ n.1)) ∉ p :: c) : ChOk tb (vax m.2 n.2 (p.2.2 || decide (m.1 ≠ n.1))) (p :: c) := by
 have hT := h.tw p List.mem_cons_self
 have hl := hT.le hn hm hn2
 refine ⟨fun q m => ?_, List.pairwise_cons.mpr ⟨fun q mq => ⟨fun e => hf (by rw [e]; exact mq), ?_⟩, h.pw⟩⟩
 ·rcases List.mem_cons.mp m with rfl | m
  ·exact hT.put hst hm hn2
  ·exact h.tw q m
 ·rcases List.mem_cons.mp mq with rfl | mq
  ·exact hl
  ·exact ((List.pairwise_cons.mp h.pw).1 q mq).2.trans hl
def wt (φ : Sta → Nat) (p : Prs) : Nat := if p.2.2 = true then φ p.1 + φ p.2.1 else φ p.1
theorem cnt_snoc {tb : Tb} {φ : Sta → Nat} {w : Str} : ∀ (row : List Str) (s : Sta), cntP tb φ s (row ++ [w]) = cntP tb (fun t => ((yq tb t w).map fun m => φ m.2).sum) s row
 | [], s => rfl
 | v :: row, s => by
  show ((yq tb s v).map fun m => cntP tb φ m.2 (row ++ [w])).sum = ((yq tb s v).map fun m => cntP tb _ m.2 row).sum
  exact sum_congr fun m _ => cnt_snoc row m.2
def WtOk (tb : Tb) (row : List Str) (p : Prs) : Prop := ∀ φ : Sta → Nat, wt φ p ≤ cntP tb φ sta0 row
theorem WtOk.step {tb : Tb} {row : List Str} {p : Prs} (h : WtOk tb row p) (he : p.2.2 = false → p.1 = p.2.1) {w : Str} {m n : Part × Sta} (hm : m ∈ yq tb p.1 w) (hn : n ∈ yq tb p.2.1 w) : WtOk tb (row ++ [w]) (vax m.2 n.2 (p.2.2 || decide (m.1 ≠ n.1))) := fun φ => by
 rw [cnt_snoc]
 refine Nat.le_trans ?_ (h _)
 have hsw : wt φ (vax m.2 n.2 (p.2.2 || decide (m.1 ≠ n.1))) = wt φ (m.2, n.2, (p.2.2 || decide (m.1 ≠ n.1))) := by
  unfold vax
  split
  ·rename_i c
   unfold wt
   dsimp only
   rw [if_pos rfl, if_pos c.1]; omega
  ·rfl
 rw [hsw]
 unfold wt
 dsimp only
 have h1 := jbb (g := fun x : Part × Sta => φ x.2) hm
 have h2 := jbb (g := fun x : Part × Sta => φ x.2) hn
 cases hf : p.2.2 with
 | true =>
  rw [Bool.true_or, if_pos rfl, if_pos rfl]
  omega
 | false =>
  rw [Bool.false_or, if_neg (show ¬ false = true by decide)]
  by_cases c : m.1 = n.1
  ·rw [decide_eq_false (fun z => z c), if_neg (show ¬ false = true by decide)]
   exact h1
  ·rw [decide_eq_true c, if_pos rfl]
   rw [← he hf] at hn
   exact sum_two (g := fun x : Part × Sta => φ x.2) hm hn fun e => c (by rw [e])
end SG
namespace SG
open PySem L2 PL LW
variable {α : Type} [DecidableEq α] {f : α → D} {k : α → NestedKey} {P : α → Prop}
theorem KeyW.pairs (h : KeyW f k P) {v : D} : ∀ {as : List α}, (∀ a ∈ as, P a) → pairsN (as.map fun a => D.tup [f a, v]) = some (as.map fun a => (f a, k a, v))
 | [], _ => rfl
 | a :: as, hp => by
  rw [List.map_cons, List.map_cons]
  unfold pairsN
  rw [KeyW.pairs h fun b m => hp b (List.mem_cons_of_mem _ m)]
  unfold pairN
  dsimp only
  rw [h.ok a (hp a List.mem_cons_self)]
  rfl
theorem KeyW.puts (h : KeyW f k P) {v : D} : ∀ {as acc : List α}, (∀ a ∈ as, P a) → (∀ a ∈ acc, P a) → putsN (acc.map fun a => (f a, v)) (as.map fun a => (f a, k a, v)) = (as.foldl addA acc).map fun a => (f a, v)
 | [], acc, _, _ => rfl
 | a :: as, acc, hp, hq => by
  have ha := hp a List.mem_cons_self
  show putsN (nSet (acc.map fun a => (f a, v)) (f a) (k a) v) (as.map fun a => (f a, k a, v)) = _
  rw [h.set_add hq ha, KeyW.puts h (fun b m => hp b (List.mem_cons_of_mem _ m)) fun b m => ?_]
  ·rfl
  ·unfold addA at m
   split at m
   ·exact hq b m
   ·rcases List.mem_append.mp m with m | m
    ·exact hq b m
    ·rw [List.mem_singleton.mp m]; exact ha
theorem KeyW.dict (h : KeyW f k P) {v : D} {Pr : Program} {w : World} {as : List α} (hp : ∀ a ∈ as, P a) : dictPD Pr w (.lst (as.map fun a => D.tup [f a, v])) = some (.new (.dn Pr w ((as.foldl addA []).map fun a => (f a, v)))) := by
 have hq := h.pairs (v := v) hp
 unfold dictPD
 dsimp only
 rw [hq]
 dsimp only
 have := h.puts (v := v) (acc := []) hp fun a m => nomatch m
 rw [List.map_nil] at this
 rw [this]
end SG
namespace SG
open PySem L2 PL LW
theorem leA_refl (a : Str) : leA a a = true := leA_iff.mpr (.inr ⟨rfl, leS_iff.mpr (List.lt_irrefl _)⟩)
end SG
namespace SG
open PySem L2 PL LW
end SG
namespace SG
open PySem L2 PL LW
def reV : Option Str → Part → Part
 | some v, .wish i _ => .wish i v
 | _, p => p
theorem reV_none (p : Part) : reV none p = p := by cases p <;> rfl
theorem map_none (l : List (Part × Sta)) : (l.map fun m => (reV none m.1, m.2)) = l := by
 have : (fun m : Part × Sta => (reV none m.1, m.2)) = id := funext fun m => by rw [reV_none]; rfl
 rw [this, List.map_id]
end SG
namespace SG
open PySem L2 PL LW
theorem qan {a b : Str} : xr a b = true ↔ leA b a = false := by unfold leA; simp
theorem za7 (a : Str) : xr a a = false := by
 have := leA_refl a
 unfold leA at this
 simpa using this
theorem aheadS_le {a b : Str} (h : xr a b = true) : leA a b = true := by
 have := leA_total a b
 rw [qan] at h
 rw [h, Bool.or_false] at this
 exact this
theorem kbn {a b c : Str} (h1 : xr a b = true) (h2 : xr b c = true) : xr a c = true := by
 rw [qan, Bool.eq_false_iff]
 intro z
 have := leA_trans _ _ _ z (aheadS_le h1)
 rw [qan] at h2
 rw [h2] at this; cases this
def rowLt : List Str → List Str → Bool
 | a :: as, b :: bs => if a = b then rowLt as bs else xr a b
 | [], _ :: _ => true
 | _, [] => false
def je (r s : List Str) : Bool := if r.length = s.length then rowLt r s else decide (r.length < s.length)
theorem rl_irr : ∀ r : List Str, rowLt r r = false
 | [] => rfl
 | a :: r => by unfold rowLt; rw [if_pos rfl]; exact rl_irr r
theorem rl_trans : ∀ {r s t : List Str}, rowLt r s = true → rowLt s t = true → rowLt r t = true
 | [], [], _, h, _ => by cases h
 | [], _ :: _, [], _, h => by cases h
 | [], _ :: _, _ :: _, _, _ => rfl
 | _ :: _, [], _, h, _ => by cases h
 | _ :: _, _ :: _, [], _, h => by cases h
 | a :: r, b :: s, c :: t, h1, h2 => by
  unfold rowLt at h1 h2 ⊢
  by_cases e1 : a = b
  ·subst e1
   rw [if_pos rfl] at h1
   by_cases e2 : a = c
   ·subst e2
    rw [if_pos rfl] at h2 ⊢
    exact rl_trans h1 h2
   ·rw [if_neg e2] at h2 ⊢; exact h2
  ·rw [if_neg e1] at h1
   by_cases e2 : b = c
   ·subst e2
    rw [if_neg e1]; exact h1
   ·rw [if_neg e2] at h2
    have h3 := kbn h1 h2
    rw [if_neg (fun z => by rw [z, za7] at h3; cases h3)]
    exact h3
theorem ra_irr (r : List Str) : je r r = false := by unfold je; rw [if_pos rfl]; exact rl_irr r
theorem ra_iff {r s : List Str} : je r s = true ↔ r.length < s.length ∨ (r.length = s.length ∧ rowLt r s = true) := by
 unfold je
 split
 ·rename_i e
  exact ⟨fun h => .inr ⟨e, h⟩, fun h => h.elim (fun z => by omega) (·.2)⟩
 ·rename_i e
  rw [decide_eq_true_iff]
  exact ⟨.inl, fun h => h.elim id fun z => absurd z.1 e⟩
theorem ra_trans {r s t : List Str} (h1 : je r s = true) (h2 : je s t = true) : je r t = true := by
 rw [ra_iff] at h1 h2 ⊢
 rcases h1 with h1 | ⟨h1, h3⟩
 ·rcases h2 with h2 | ⟨h2, _⟩ <;> exact .inl (by omega)
 ·rcases h2 with h2 | ⟨h2, h4⟩
  ·exact .inl (by omega)
  ·exact .inr ⟨by omega, rl_trans h3 h4⟩
theorem rl_app : ∀ {r s : List Str} (x y : List Str), r.length = s.length → rowLt r s = true → rowLt (r ++ x) (s ++ y) = true
 | [], [], _, _, _, h => by cases h
 | [], _ :: _, _, _, e, _ => by cases e
 | _ :: _, [], _, _, e, _ => by cases e
 | a :: r, b :: s, x, y, e, h => by
  rw [List.cons_append, List.cons_append]
  unfold rowLt at h ⊢
  split
  ·rename_i q
   rw [if_pos q] at h
   exact rl_app x y (by simpa using e) h
  ·rename_i q
   rw [if_neg q] at h; exact h
theorem ra_app {r s : List Str} (x y : Str) (h : je r s = true) : je (r ++ [x]) (s ++ [y]) = true := by
 rw [ra_iff] at h ⊢
 rw [List.length_append, List.length_append, List.length_singleton, List.length_singleton]
 rcases h with h | ⟨h1, h2⟩
 ·exact .inl (by omega)
 ·exact .inr ⟨by omega, rl_app _ _ h1 h2⟩
theorem rl_last {x y : Str} (h : xr x y = true) : ∀ r : List Str, rowLt (r ++ [x]) (r ++ [y]) = true
 | [] => by
  show (if x = y then rowLt [] [] else xr x y) = true
  rw [if_neg (fun z => by rw [z, za7] at h; cases h)]
  exact h
 | a :: r => by
  rw [List.cons_append, List.cons_append]
  unfold rowLt
  rw [if_pos rfl]
  exact rl_last h r
theorem ra_last {x y : Str} (h : xr x y = true) (r : List Str) : je (r ++ [x]) (r ++ [y]) = true := by
 rw [ra_iff]
 exact .inr ⟨by rw [List.length_append, List.length_append]; rfl, rl_last h r⟩
theorem ra_nil {r : List Str} (h : r ≠ []) : je [] r = true := by
 rw [ra_iff]
 exact .inl (by cases r with
  | nil => exact absurd rfl h
  | cons a r => exact Nat.succ_pos _)
section
variable {μ : Type} [DecidableEq μ]
def gPut (succ : List μ → Str → List μ) (row : List Str) (ms : List μ) (q : List (List Str × List μ) × List μ) (w : Str) : List (List Str × List μ) × List μ :=
 if ((succ ms w).filter fun p => !decide (p ∈ q.2)) = [] then q else (q.1 ++ [(row ++ [w], (succ ms w).filter fun p => !decide (p ∈ q.2))], q.2 ++ (succ ms w).filter fun p => !decide (p ∈ q.2))
def Dn (a : Nat) (dn : List Str) (i : Nat) (w : Str) : Prop := i < a ∨ (i = a ∧ w ∈ dn)
structure GI (succ : List μ → Str → List μ) (P : μ → Prop) (ms0 : List μ) (ws : List Str) (a : Nat) (dn : List Str) (q : List (List Str × List μ) × List μ) : Prop where
 first : ∃ t, q.1 = ([], ms0) :: t
 seen : ∀ p ∈ q.2, ∃ x ∈ q.1, p ∈ x.2
 nd : q.2.Nodup
 pr : ∀ p ∈ q.2, P p
 pr1 : ∀ x ∈ q.1, ∀ p ∈ x.2, P p
 len : q.1.length ≤ q.2.length + 1
 inc : q.1.Pairwise fun x y => je x.1 y.1 = true
 over : ∀ x ∈ q.1, ∀ w ∈ x.1, w ∈ ws
 rch : ∀ x ∈ q.1, ∀ p ∈ x.2, p ∈ x.1.foldl succ ms0
 clo : ∀ i x w, Dn a dn i w → w ∈ ws → q.1[i]? = some x → ∀ p ∈ succ x.2 w, ∃ y ∈ q.1, p ∈ y.2 ∧ je (x.1 ++ [w]) y.1 = false
 par : ∀ y ∈ q.1, y.1 = [] ∨ ∃ i x w, Dn a dn i w ∧ q.1[i]? = some x ∧ y.1 = x.1 ++ [w]
variable {succ : List μ → Str → List μ} {P : μ → Prop} {ms0 : List μ} {ws : List Str} {e : μ → Bool}
theorem wan {α : Type} {l : List α} {t : List α} {i : Nat} {x : α} (h : l[i]? = some x) : (l ++ t)[i]? = some x := by
 rw [List.getElem?_append_left (List.getElem?_eq_some_iff.mp h).1]; exact h
theorem inc_of {q : List (List Str × List μ)} (h : q.Pairwise fun x y => je x.1 y.1 = true) {i j : Nat} {x y : List Str × List μ} (hx : q[i]? = some x) (hy : q[j]? = some y) (hl : i < j) : je x.1 y.1 = true := by
 obtain ⟨h1, e1⟩ := List.getElem?_eq_some_iff.mp hx
 obtain ⟨h2, e2⟩ := List.getElem?_eq_some_iff.mp hy
 have := List.pairwise_iff_getElem.mp h i j h1 h2 hl
 rw [e1, e2] at this
 exact this
theorem GI.put (hd : ∀ ms w, (succ ms w).Nodup) (hP : ∀ ms w, (∀ p ∈ ms, P p) → ∀ p ∈ succ ms w, P p) (hS : ∀ ms w p, p ∈ succ ms w ↔ ∃ m ∈ ms, p ∈ succ [m] w) {a : Nat} {dn : List Str} {q : List (List Str × List μ) × List μ} (h : GI succ P ms0 ws a dn q) {row : List Str} {ms : List μ} (hx : q.1[a]? = some (row, ms)) {w : Str} (hw : w ∈ ws) (hdn : ∀ d ∈ dn, xr d w = true) :
  GI succ P ms0 ws a (dn ++ [w]) (gPut succ row ms q w) := by
 have ahead : ∀ y ∈ q.1, je y.1 (row ++ [w]) = true := fun y m => by
  rcases h.par y m with z | ⟨i, x, v, d, hi, z⟩
  ·rw [z]; exact ra_nil (by simp)
  ·rw [z]
   rcases d with d | ⟨rfl, d⟩
   ·exact ra_app _ _ (inc_of h.inc hi hx d)
   ·rw [hx] at hi
    cases hi
    exact ra_last (hdn v d) row
 have mono : ∀ i v, Dn a dn i v → Dn a (dn ++ [w]) i v := fun i v d => d.elim .inl fun z => .inr ⟨z.1, List.mem_append_left _ z.2⟩
 have hmx : (row, ms) ∈ q.1 := List.mem_of_getElem? hx
 unfold gPut
 split
 ·rename_i hn
  refine ⟨h.first, h.seen, h.nd, h.pr, h.pr1, h.len, h.inc, h.over, h.rch, fun i x v d hv hi p hp => ?_, fun y m => ?_⟩
  ·by_cases d0 : Dn a dn i v
   ·exact h.clo i x v d0 hv hi p hp
   ·obtain ⟨rfl, hv2⟩ : i = a ∧ v = w := by
     rcases d with d | ⟨d1, d2⟩
     ·exact absurd (.inl d) d0
     ·rcases List.mem_append.mp d2 with d2 | d2
      ·exact absurd (.inr ⟨d1, d2⟩) d0
      ·exact ⟨d1, List.mem_singleton.mp d2⟩
    subst hv2
    rw [hx] at hi
    cases hi
    have hs : p ∈ q.2 := by
     refine Classical.byContradiction fun z => ?_
     have : p ∈ (succ ms v).filter fun p => !decide (p ∈ q.2) := List.mem_filter.mpr ⟨hp, by simp [z]⟩
     rw [hn] at this; cases this
    obtain ⟨y, hy, hpy⟩ := h.seen p hs
    refine ⟨y, hy, hpy, ?_⟩
    rw [Bool.eq_false_iff]
    intro z
    have := ra_trans (ahead y hy) z
    rw [ra_irr] at this; cases this
  ·rcases h.par y m with z | ⟨i, x, v, d, hi, z⟩
   ·exact .inl z
   ·exact .inr ⟨i, x, v, mono i v d, hi, z⟩
 ·rename_i hn
  have hfr : ∀ p, p ∈ ((succ ms w).filter fun p => !decide (p ∈ q.2)) ↔ p ∈ succ ms w ∧ p ∉ q.2 := fun p => by
   rw [List.mem_filter]; simp
  have hfd : ((succ ms w).filter fun p => !decide (p ∈ q.2)).Nodup := (hd ms w).filter _
  generalize ((succ ms w).filter fun p => !decide (p ∈ q.2)) = fr at hn hfr hfd ⊢
  have hfl : 1 ≤ fr.length := by
   cases fr with
   | nil => exact absurd rfl hn
   | cons a r => exact Nat.succ_pos _
  refine ⟨?_, fun p m => ?_, ?_, fun p m => ?_, fun x m => ?_, ?_, ?_, fun x m => ?_, fun x m => ?_, fun i x v d hv hi p hp => ?_, fun y m => ?_⟩
  ·obtain ⟨t, ht⟩ := h.first
   exact ⟨t ++ [(row ++ [w], fr)], by rw [ht]; rfl⟩
  ·rcases List.mem_append.mp m with m | m
   ·obtain ⟨x, hx, hp⟩ := h.seen p m
    exact ⟨x, List.mem_append_left _ hx, hp⟩
   ·exact ⟨_, List.mem_append_right _ (List.mem_singleton.mpr rfl), m⟩
  ·rw [List.nodup_append]
   refine ⟨h.nd, hfd, fun x hx y hy z => ?_⟩
   subst z
   exact ((hfr x).mp hy).2 hx
  ·rcases List.mem_append.mp m with m | m
   ·exact h.pr p m
   ·exact hP ms w (h.pr1 _ hmx) p ((hfr p).mp m).1
  ·rcases List.mem_append.mp m with m | m
   ·exact h.pr1 x m
   ·rw [List.mem_singleton.mp m]
    exact fun p hp => hP ms w (h.pr1 _ hmx) p ((hfr p).mp hp).1
  ·have := h.len
   rw [List.length_append, List.length_append, List.length_singleton]
   omega
  ·rw [List.pairwise_append]
   refine ⟨h.inc, List.pairwise_singleton _ _, fun x hx y hy => ?_⟩
   rw [List.mem_singleton.mp hy]
   exact ahead x hx
  ·rcases List.mem_append.mp m with m | m
   ·exact h.over x m
   ·rw [List.mem_singleton.mp m]
    intro v hv
    rcases List.mem_append.mp hv with hv | hv
    ·exact h.over _ hmx v hv
    ·rw [List.mem_singleton.mp hv]; exact hw
  ·rcases List.mem_append.mp m with m | m
   ·exact h.rch x m
   ·rw [List.mem_singleton.mp m]
    intro p hp
    show p ∈ (row ++ [w]).foldl succ ms0
    rw [List.foldl_append, List.foldl_cons, List.foldl_nil, hS]
    obtain ⟨m0, hm0, hp0⟩ := (hS ms w p).mp ((hfr p).mp hp).1
    exact ⟨m0, h.rch _ hmx m0 hm0, hp0⟩
  ·have ha : a < q.1.length := (List.getElem?_eq_some_iff.mp hx).1
   have hil : i < q.1.length := by
    rcases d with d | ⟨rfl, _⟩
    ·omega
    ·exact ha
   rw [List.getElem?_append_left hil] at hi
   by_cases d0 : Dn a dn i v
   ·obtain ⟨y, hy, h1, h2⟩ := h.clo i x v d0 hv hi p hp
    exact ⟨y, List.mem_append_left _ hy, h1, h2⟩
   ·obtain ⟨rfl, hv2⟩ : i = a ∧ v = w := by
     rcases d with d | ⟨d1, d2⟩
     ·exact absurd (.inl d) d0
     ·rcases List.mem_append.mp d2 with d2 | d2
      ·exact absurd (.inr ⟨d1, d2⟩) d0
      ·exact ⟨d1, List.mem_singleton.mp d2⟩
    subst hv2
    rw [hx] at hi
    cases hi
    by_cases hs : p ∈ q.2
    ·obtain ⟨y, hy, hpy⟩ := h.seen p hs
     refine ⟨y, List.mem_append_left _ hy, hpy, ?_⟩
     rw [Bool.eq_false_iff]
     intro z
     have := ra_trans (ahead y hy) z
     rw [ra_irr] at this; cases this
    ·exact ⟨_, List.mem_append_right _ (List.mem_singleton.mpr rfl), (hfr p).mpr ⟨hp, hs⟩, ra_irr _⟩
  ·rcases List.mem_append.mp m with m | m
   ·rcases h.par y m with z | ⟨i, x, v, d, hi, z⟩
    ·exact .inl z
    ·exact .inr ⟨i, x, v, mono i v d, wan hi, z⟩
   ·rw [List.mem_singleton.mp m]
    exact .inr ⟨a, (row, ms), w, .inr ⟨rfl, List.mem_append_right _ (List.mem_singleton.mpr rfl)⟩, wan hx, rfl⟩
theorem GI.step {a : Nat} {q : List (List Str × List μ) × List μ} (h : GI succ P ms0 ws a ws q) : GI succ P ms0 ws (a + 1) [] q :=
 ⟨h.first, h.seen, h.nd, h.pr, h.pr1, h.len, h.inc, h.over, h.rch, fun i x w d hw => h.clo i x w (by
  rcases d with d | ⟨_, d⟩
  ·rcases Nat.lt_or_eq_of_le (Nat.le_of_lt_succ d) with z | z
   ·exact .inl z
   ·exact .inr ⟨z, hw⟩
  ·cases d) hw, fun y m => by
  rcases h.par y m with z | ⟨i, x, w, d, hi, z⟩
  ·exact .inl z
  ·exact .inr ⟨i, x, w, .inl (by rcases d with d | ⟨d, _⟩ <;> omega), hi, z⟩⟩
end
end SG
namespace SG
open PySem L2 PL LW
end SG
namespace SG
open PySem L2 PL LW
end SG
namespace PL
open PySem L2 PySem.Spec PyProof.Rows
end PL
namespace SG
open PySem L2 PL LW
def OnTo (tb : Tb) (s : Sta) (n : Nat) : Prop := ∃ r : List Str, r.length ≤ n ∧ (∀ w ∈ r, goodW w = true) ∧ EndF tb s r
theorem OnTo.le {tb : Tb} {s : Sta} {n k : Nat} (h : OnTo tb s n) (hk : n ≤ k) : OnTo tb s k := by
 obtain ⟨r, h1, h2⟩ := h
 exact ⟨r, Nat.le_trans h1 hk, h2⟩
end SG
namespace SG
open PySem L2 PL LW
end SG
namespace SG
open PySem L2 PL LW
end SG
namespace SG
open PySem L2 PL LW
abbrev Mv := Sta → Str → List (Part × Sta)
noncomputable def pairL (mv : Mv) (w : Str) (ms : List Prs) : List Prs := ms.flatMap fun p => (mv p.1 w).flatMap fun m => (mv p.2.1 w).map fun n => (m.2, n.2, p.2.2 || decide (m.1 ≠ n.1))
noncomputable def putL (q : List Prs × List Prs) (p : Prs) : List Prs × List Prs := if p ∈ q.2 then q else (q.1 ++ [p], q.2 ++ [p])
def Swp (p q : Prs) : Prop := q = p ∨ (p.2.2 = true ∧ q = (p.2.1, p.1, true))
theorem Swp.put (a b : Sta) (f : Bool) : Swp (a, b, f) (vax a b f) := by
 unfold vax
 split
 ·rename_i c
  exact .inr ⟨c.1, rfl⟩
 ·exact .inl rfl
theorem Swp.symm {p q : Prs} (h : Swp p q) : Swp q p := by
 obtain ⟨a, b, f⟩ := p
 rcases h with rfl | ⟨h1, rfl⟩
 ·exact .inl rfl
 ·dsimp only at h1
  subst h1
  exact .inr ⟨rfl, rfl⟩
theorem Swp.trans {p q r : Prs} (h : Swp p q) (k : Swp q r) : Swp p r := by
 obtain ⟨a, b, f⟩ := p
 rcases h with rfl | ⟨h1, rfl⟩
 ·exact k
 ·dsimp only at h1
  subst h1
  rcases k with rfl | ⟨_, rfl⟩
  ·exact .inr ⟨rfl, rfl⟩
  ·exact .inl rfl
end SG
namespace SG
open PySem L2 PL LW
end SG
namespace SG
open PySem L2 PL LW
end SG
namespace PL
open PySem PySem.Spec PyProof.Rows L2
end PL
namespace PL
open PySem PySem.Spec PyProof.Rows L2
end PL
namespace PL
open PySem PySem.Spec PyProof.Rows L2
end PL
namespace PL
open PySem PySem.Spec PyProof.Rows L2
end PL
namespace SG
open PySem L2 PL LW
end SG
namespace PL
open PySem L2 PySem.Spec PyProof.Rows
abbrev TL3 := List (List (List Str))
def twD (w : List Str) : D := .lst (w.map fun z => .s (.str z))
def tgD (ts : List (List Str)) : D := .lst (ts.map twD)
def tsD (tss : TL3) : D := .lst (tss.map tgD)
def TxL (H : Hp) (Z : Addr → Prop) (a : Addr) (ws : List Str) : Prop := H a = some (.lst (ws.map V.str)) ∧ Z a
def TgL (H : Hp) (Z : Addr → Prop) (a : Addr) (ts : List (List Str)) : Prop := ∃ bs : List Addr, H a = some (.lst (bs.map V.ref)) ∧ Z a ∧ EIs (TxL H Z) bs ts
structure NL (H : Hp) (Z : Addr → Prop) (p : Addr) (as : List Addr) (tss : TL3) : Prop where
 top : H p = some (.lst (as.map V.ref))
 old : Z p
 nd : as.Nodup
 mid : EIs (TgL H Z) as tss
open Classical in
noncomputable def coreL (S : Addr → Prop) (H : Hp) : Hp := fun b => if S b then none else match H b with
 | some (.lst xs) => some (.lst xs)
 | _ => none
section
variable {K : PySem.W.Frag} {S Z : Addr → Prop} {H H' : Hp}
theorem kbg {a : Addr} {xs : List V} (h : H a = some (.lst xs)) (n : ¬ S a) : coreL S H a = some (.lst xs) := by unfold coreL; rw [if_neg n, h]
theorem is_tw {C : Hp} {a : Addr} {ws : List Str} (h : C a = some (.lst (ws.map V.str))) : Is K C (twD ws) (.ref a) := by
 refine is_lst_iff.mpr ⟨a, _, rfl, h, ?_⟩
 clear h
 induction ws with
 | nil => exact qf
 | cons w ws ih => exact kc is_s ih
theorem is_tg {C : Hp} {a : Addr} {ts : List (List Str)} {bs : List Addr} (h : C a = some (.lst (bs.map V.ref))) (hb : EIs (fun b w => C b = some (.lst (w.map V.str))) bs ts) : Is K C (tgD ts) (.ref a) := by
 refine is_lst_iff.mpr ⟨a, _, rfl, h, ?_⟩
 clear h
 induction hb with
 | nil => exact qf
 | cons h _ ih => exact kc (is_tw h) ih
theorem NL.is {p : Addr} {as : List Addr} {tss : TL3} (n : NL H Z p as tss) (hS : ∀ a, Z a → ¬ S a) : Is K (coreL S H) (tsD tss) (.ref p) := by
 refine is_lst_iff.mpr ⟨p, _, rfl, kbg n.top (hS p n.old), ?_⟩
 have := n.mid
 clear n
 induction this with
 | nil => exact qf
 | cons h _ ih =>
  obtain ⟨bs, h1, h2, h3⟩ := h
  exact kc (is_tg (kbg h1 (hS _ h2)) (h3.mono fun b w z => kbg z.1 (hS b z.2))) ih
theorem NL.stay {p : Addr} {as : List Addr} {tss : TL3} (n : NL H Z p as tss) (k : ∀ a xs, Z a → H a = some (.lst xs) → H' a = some (.lst xs)) : NL H' Z p as tss :=
 ⟨k _ _ n.old n.top, n.old, n.nd, n.mid.mono fun a ts ⟨bs, h1, h2, h3⟩ => ⟨bs, k _ _ h2 h1, h2, h3.mono fun b w z => ⟨k _ _ z.2 z.1, z.2⟩⟩⟩
end
def rho (n : Nat) (f : Nat → Cell) : En := (List.range n).map f
end PL
namespace PL
open PySem L2 PySem.Spec PyProof.Rows
def lstD1 : List D → Option (List Str)
 | [] => some []
 | .s (.str z) :: ds => match lstD1 ds with
  | some zs => some (z :: zs)
  | none => none
 | _ => none
def cellW : Option Cell → Option (List Str)
 | some (.dat (.lst ds)) => lstD1 ds
 | _ => none
def cellR : Option Cell → Option (List Str)
 | some (.own (.lst ds)) => lstD1 ds
 | _ => none
def cellS : Option Cell → Option Str
 | some (.dat (.s (.str w))) => some w
 | _ => none
def cellI : Option Cell → Option Int
 | some (.dat (.s (.int w))) => some w
 | _ => none
def cellB : Option Cell → Option Bool
 | some (.dat (.s (.bl w))) => some w
 | _ => none
def outB : Option (Out Bool) → Option Bool
 | some (.ok b _) => some b
 | _ => none
def outN : Option (Out Fl) → Option En
 | some (.ok .next r) => some r
 | _ => none
def fT (tss : TL3) (ws : List Str) : Nat → Cell
 | 0 => .dat (tsD tss)
 | 1 => .dat (twD ws)
 | _ => .no
def fG (tss : TL3) (ws : List Str) (stp : Bool) : Nat → Cell
 | 0 => .dat (tsD tss)
 | 1 => .dat (twD ws)
 | 3 => .dat (.s (.bl stp))
 | _ => .no
def fK (k : Int) : Nat → Cell
 | 6 => .dat (.s (.int k))
 | _ => .no
def fH (ws rs : List Str) (w : Str) : Nat → Cell
 | 1 => .dat (twD ws)
 | 2 => .own (.lst (rs.map fun z => .s (.str z)))
 | 5 => .dat (.s (.str w))
 | _ => .no
def fJ (rs : List Str) : Nat → Cell
 | 2 => .own (.lst (rs.map fun z => .s (.str z)))
 | _ => .no
def frR (n : Nat) (fc : PL.P Bool) (g : PL.P Fl) (t1 t2 : PL.P Bool) (h1 h2 : PL.P Fl) : Nat → TL3 → List Str → List Str → Bool → Option (List Str)
 | 0, _, _, _, _ => none
 | m + 1, tss, ws, rs, stp => match outB (fc (rho n (fT tss ws))) with
  | none => none
  | some false => some rs
  | some true => match outN (g (rho n (fG tss ws stp))) with
   | none => none
   | some r => match cellS r[5]?, cellI r[6]? with
    | some w, some k => match outB (t1 (rho n (fK k))), outB (t2 (rho n (fK k))) with
     | some true, _ => if 0 ≤ k then (match tss[k.toNat]? with
      | some (t :: ts) => if rs.length + t.length ≤ sizeLine then frR n fc g t1 t2 h1 h2 m (tss.set k.toNat ts) ws (rs ++ t) stp else none
      | _ => none) else none
     | some false, some true => (match outN (h1 (rho n (fH ws rs w))) with
      | none => none
      | some r => match cellW r[1]?, cellR r[2]? with
       | some ws', some rs' => frR n fc g t1 t2 h1 h2 m tss ws' rs' stp
       | _, _ => none)
     | some false, some false => (match outN (h2 (rho n (fJ rs))) with
      | none => none
      | some r => match cellR r[2]?, cellB r[3]? with
       | some rs', some b => frR n fc g t1 t2 h1 h2 m tss ws rs' b
       | _, _ => none)
     | _, _ => none
    | _, _ => none
structure FS (K : PySem.W.Frag) (n : Nat) (H0 : Hp) (p : Addr) (as : List Addr) (H : Hp) (σ : Sl) (q aw : Addr) (tss : TL3) (ws rs : List Str) (stp : Bool) : Prop where
 len : σ.length = n
 nl : NL H (fun b => H0 b ≠ none) p as tss
 s0 : σ[0]? = some (some (.ref p))
 s1 : σ[1]? = some (some (.ref aw))
 s2 : σ[2]? = some (some (.ref q))
 s3 : σ[3]? = some (some (.bl stp))
 w : H aw = some (.lst (ws.map V.str))
 r : H q = some (.lst (rs.map V.str))
 qn : H0 q = none
 qw : aw ≠ q
 keep : ∀ b o, H0 b = some o → NT o → b ∉ as → H b = some o
 dom : ∀ b, H b = none → H0 b = none
 tab : ∀ P, TabP K P → TS1 H P
 tabs : ∀ P, TS1 H0 P → TS1 H P
structure Kpt (q : Addr) (H H' : Hp) : Prop where
 keep : ∀ b o, H b = some o → NT o → b ≠ q → H' b = some o
 dom : ∀ b, H' b = none → H b = none
 tabs : ∀ P, TS1 H P → TS1 H' P
section
variable {K : PySem.W.Frag} {W : WX} {n : Nat} {H0 H H' : Hp} {p q aw : Addr} {as : List Addr} {σ σ' : Sl} {tss : TL3} {ws rs : List Str} {stp : Bool}
theorem Kpt.of {C C' : Hp} {A : Addr → Prop} (s : Step C H C' H' A) (hA : ∀ b, A b → b = q) : Kpt q H H' := ⟨fun b o e nt ne => s.keep b o e nt fun z => ne (hA b z), s.dom, s.tabs⟩
theorem FS.notq (f : FS K n H0 p as H σ q aw tss ws rs stp) {b : Addr} (h : H0 b ≠ none) : b ≠ q := fun e => h (by rw [e]; exact f.qn)
theorem FS.move (f : FS K n H0 p as H σ q aw tss ws rs stp) (k : Kpt q H H') (hl : σ'.length = n) (h0 : σ'[0]? = σ[0]?) {aw' : Addr} {ws' rs' : List Str} {stp' : Bool} (h1 : σ'[1]? = some (some (.ref aw'))) (h2 : σ'[2]? = σ[2]?) (h3 : σ'[3]? = some (some (.bl stp'))) (hw : H' aw' = some (.lst (ws'.map V.str))) (hr : H' q = some (.lst (rs'.map V.str))) (hq : aw' ≠ q) :
  FS K n H0 p as H' σ' q aw' tss ws' rs' stp' :=
 ⟨hl, f.nl.stay fun a xs z e => k.keep a _ e ko (f.notq z), h0.trans f.s0, h1, h2.trans f.s2, h3, hw, hr, f.qn, hq, fun b o e nt nb => k.keep b o (f.keep b o e nt nb) nt (f.notq (by rw [e]; exact fun z => nomatch z)), fun b e => f.dom b (k.dom b e), fun P h => k.tabs P (f.tab P h), fun P h => k.tabs P (f.tabs P h)⟩
theorem FS.same (f : FS K n H0 p as H σ q aw tss ws rs stp) (k : Kpt q H H') (hr : H' q = some (.lst (rs.map V.str))) : FS K n H0 p as H' σ q aw tss ws rs stp :=
 f.move k f.len rfl f.s1 rfl f.s3 (k.keep aw _ f.w ko f.qw) hr f.qw
variable {fc t1 t2 : PL.P Bool} {g h1 h2 : PL.P Fl} {tc tt1 tt2 : TT} {tg th1 th2 : TS}
end
end PL
namespace PL
open PySem L2 PySem.Spec PyProof.Rows
end PL
namespace PL
open PySem L2 PySem.Spec PyProof.Rows
def retT : Option (Out Fl) → Option (List Str)
 | some (.ok (.ret (.dat (.tup ds))) _) => lstD1 ds
 | _ => none
structure FRp where
 n : Nat
 gA : PL.P Fl
 fc : PL.P Bool
 g : PL.P Fl
 t1 : PL.P Bool
 t2 : PL.P Bool
 h1 : PL.P Fl
 h2 : PL.P Fl
 fr : PL.P Fl
 fuel : Nat
def FRp.run (F : FRp) (tss : TL3) (ws : List Str) : Option (List Str) := match outN (F.gA (rho F.n (fT tss ws))) with
 | none => none
 | some r => match cellR r[2]?, cellB r[3]? with
  | some rs, some b => match frR F.n F.fc F.g F.t1 F.t2 F.h1 F.h2 F.fuel tss ws rs b with
   | none => none
   | some rr => retT (F.fr (rho F.n (fJ rr)))
  | _, _ => none
end PL
namespace PL
open PySem L2 PySem.Spec PyProof.Rows
end PL
namespace PL
open PySem L2 PySem.Spec PyProof.Rows
def noOwn (ρ : En) : Bool := ρ.all fun c => match c with
 | .own _ => false
 | _ => true
def isNo (ρ : En) (i : Nat) : Bool := match ρ[i]? with
 | some .no => true
 | _ => false
def toR (a : Tgt) (fe : P Rv) : List D → En → Option (List D)
 | [], _ => some []
 | d :: ds, ρ => match a d ρ with
  | none => none
  | some ρ1 => if noOwn ρ1 && isNo ρ1 3 then (match fe ρ1 with
   | some (.ok (.new (.lst es)) ρ2) => match toR a fe ds ρ2 with
    | some r => some (.lst es :: r)
    | none => none
   | _ => none) else none
structure TOp where
 n : Nat
 g1 : PL.P Fl
 fi : PL.P (List D)
 a : Tgt
 fe : PL.P Rv
def TOp.run (T : TOp) (cs : List Cell) : Option (List D) := if noOwn cs then (match T.g1 (cs ++ List.replicate (T.n - cs.length) .no) with
 | some (.ok .next ρ1) => if noOwn ρ1 && isNo ρ1 3 then (match T.fi ρ1 with
  | some (.ok ds ρ2) => if noOwn ρ2 && decide (ds.length ≤ sizeLine) then toR T.a T.fe ds ρ2 else none
  | _ => none) else none
 | _ => none) else none
def TOp.fn (T : TOp) : PL.P Rv := fun cs => match T.run cs with
 | some ds => some (.ok (.new (.lst ds)) cs)
 | none => none
section
variable {K : PySem.W.Frag} {W : WX} {σ : Sl} {C H : Hp} {ρ : En}
structure TS3 (H0 C H : Hp) (σ : Sl) (q : Addr) (as : List Addr) (acc : List D) (K : PySem.W.Frag) : Prop where
 s : σ[3]? = some (some (.ref q))
 h : H q = some (.lst (as.map V.ref))
 c : C q = none
 is : Iss K C acc (as.map V.ref)
 nd : as.Nodup
 fr : ∀ a ∈ as, H0 a = none
 ex : ∀ a ∈ as, H a ≠ none
 q0 : H0 q = none
theorem TS3.step {H0 C H C' H' : Hp} {σ σ' : Sl} {q : Addr} {as : List Addr} {acc : List D} {A : Addr → Prop} (t : TS3 H0 C H σ q as acc K) (s : Step C H C' H' A) (hA : ¬ A q) (hs : σ'[3]? = σ[3]?) : TS3 H0 C' H' σ' q as acc K := by
 refine ⟨hs.trans t.s, s.keep q _ t.h ko hA, ?_, Iss.mono s.core _ _ t.is, t.nd, t.fr, fun a m z => t.ex a m (s.dom a z), t.q0⟩
 cases e : C' q with
 | none => rfl
 | some o =>
  rcases s.new q t.c (by rw [e]; exact fun z => nomatch z) with z | z
  ·rw [t.h] at z; cases z
  ·exact absurd z hA
end
end PL
namespace PL
open PySem L2 PySem.Spec PyProof.Rows
end PL
namespace PL
open PySem L2 PySem.Spec PyProof.Rows
def lstD2 : List D → Option (List (List Str))
 | [] => some []
 | .lst ds :: r => match lstD1 ds, lstD2 r with
  | some z, some zs => some (z :: zs)
  | _, _ => none
 | _ => none
def lstD3 : List D → Option TL3
 | [] => some []
 | .lst ds :: r => match lstD2 ds, lstD3 r with
  | some z, some zs => some (z :: zs)
  | _, _ => none
 | _ => none
def cellT : Option Cell → Option TL3
 | some (.dat (.lst ds)) => lstD3 ds
 | _ => none
def fQ (rr : List Str) : Nat → Cell
 | 6 => .dat (.tup (rr.map fun z => .s (.str z)))
 | _ => .no
structure RFp where
 n : Nat
 gA : PL.P Fl
 TO : TOp
 gB : PL.P Fl
 F : FRp
 gC : PL.P Fl
def RFp.fn (T : RFp) : PL.P Rv := fun cs => if noOwn cs = true then (match T.gA (cs ++ List.replicate (T.n - cs.length) .no) with
 | some (.ex e _) => some (.ex e cs)
 | some (.ok .next ρ1) => (match sSet 2 (zk 2 T.TO.fn (uD (fVar 0) (uD (fVar 1) uNil))) ρ1 with
  | some (.ok .next ρ2) => (match T.gB ρ2 with
   | some (.ex e _) => some (.ex e cs)
   | some (.ok .next ρ3) => (match cellT ρ2[2]? with
    | some tss => (match cellR ρ3[3]? with
     | some ws => (match T.F.run tss ws with
      | some rr => (match T.gC (rho T.n (fQ rr)) with
       | some (.ex e _) => some (.ex e cs)
       | some (.ok (.ret r) ρ5) => (match handed 0 ρ5 r with
        | some (.dat d) => some (.ok (.dat d) cs)
        | _ => none)
       | _ => none)
      | none => none)
     | none => none)
    | none => none)
   | _ => none)
  | _ => none)
 | _ => none) else none
end PL
namespace PL
open PySem L2 PySem.Spec PyProof.Rows PyProof PySem.AutoSeq1
end PL
namespace SG
open PySem L2 PL LW
end SG
namespace SG
open PySem L2 PL LW
end SG
namespace SG
open PySem L2 PL LW
end SG
namespace PL
open PySem PySem.Spec PyProof.Rows L2
end PL
namespace SG
open PySem L2 PL LW
end SG
namespace PL
open PySem L2
end PL
namespace SG
open PySem L2 PL LW
end SG
namespace PL
open PySem PySem.Spec PyProof.Rows L2
def datsAt (ρ : En) : List Nat → Option (List D)
 | [] => some []
 | i :: is => match ρ[i]? with
  | some (.dat d) => (match datsAt ρ is with
   | some ds => some (d :: ds)
   | none => none)
  | _ => none
theorem ja6 {ρ : En} {Q : List D → Prop} : wpO (datsAt ρ []) Q ↔ Q [] := Iff.rfl
end PL
namespace PL
open PySem PySem.Spec PyProof.Rows L2
end PL
namespace SG
open PySem L2 PL LW
end SG
namespace SG
open PySem L2 PL LW
end SG
namespace SG
open PySem L2 PL LW
def t1 (v : Str) : Told := if v = "" then [] else [(0, v)]
def y1 (l : List Str) : List Int := List.replicate l.length 0
theorem vals1 {v : Str} (h : v ≠ "") : valsT (t1 v) 0 = [v] := by unfold t1; rw [if_neg h]; rfl
end SG
namespace PL
open PySem L2
end PL
namespace SG
open PySem L2 PL LW
end SG
namespace SG
open PySem L2 PL LW
end SG
namespace SG
open PySem L2 PL LW
end SG
namespace SG
open PySem L2 PL LW
end SG
namespace SG
open PySem L2 PL LW
end SG
namespace SG
open PySem L2 PL LW
end SG
namespace PL
open PySem L2
def repB (d : D) : Option Rv := match toPy d with
 | some p => if (p.showable && !p.hasDict && decide (p.depth ≤ 60) && decide (p.shown.length ≤ sizeLine)) = true then some (rvS p.shown) else none
 | none => none
def reprGD : List D → Option Rv
 | [.tup ds] => repB (.tup ds)
 | [.lst ds] => repB (.lst ds)
 | _ => none
end PL
namespace PL
open PySem L2 PySem.Spec PyProof.Rows
structure FnOkG (P : Program) (w : World) (K : PySem.W.Frag) (mg : Str → Option Value) (base : Heap) (k : Nat) (f : Addr) (fd : FuncData) (ps : List Str) (sp : Sp) : Prop where
 len : ∀ vs H Q E, sp vs H Q E → vs.length = ps.length
 run : ∀ A : Around, A.guards = some [] → ∀ (outer : List PySem.Env) (sh : Shared) (H : Hp) (args : Args) (us : List Value) (vs : List V) (Q : VK) (E : XK), Room k A → Env0 P w K mg base A outer sh H → BindsTo sh fd args (ps.zip us) → Vals vs us → sp vs H Q E →
  codeAny (model P w) A (.call (.ref f) args) (CR (L2.CX P w) outer P w H sh Q E) sh
section
variable {P : Program} {w : World} {K : PySem.W.Frag} {mg : Str → Option Value} {base : Heap}
theorem FnOkG.imp {k : Nat} {f : Addr} {fd : FuncData} {ps : List Str} {sp sp' : Sp} (F : FnOkG P w K mg base k f fd ps sp) (h : ∀ vs H Q E, sp' vs H Q E → sp vs H Q E) : FnOkG P w K mg base k f fd ps sp' :=
 ⟨fun vs H Q E q => F.len vs H Q E (h _ _ _ _ q), fun A gA outer sh H args us vs Q E r e b v q => F.run A gA outer sh H args us vs Q E r e b v (h _ _ _ _ q)⟩
variable {ι : Type} {X : ι → Cx} {k : Nat} {W : WX} {N : List Str} {sc : Scope} {x : Str} {p pos : Pos} {e : Expr} {es : List Expr} {ga : PL.P (List Arg)}
end
end PL
namespace SG
open PySem L2 PL LW
structure HdOk (tss : TL3) : Prop where
 ne : ∀ (i : Nat) (ts : List (List Str)) (t : List Str), tss[i]? = some ts → t ∈ ts → ∃ w r, t = w :: r ∧ bareW w = false ∧ w ≠ "--"
 inj : ∀ (i j : Nat) (ts us : List (List Str)) (t u : List Str), tss[i]? = some ts → tss[j]? = some us → t ∈ ts → u ∈ us → t.headD "" = u.headD "" → i = j
theorem set_at {tss : TL3} {i j : Nat} {ts us : List (List Str)} {t : List Str} (h : tss[i]? = some (t :: ts)) (hj : (tss.set i ts)[j]? = some us) : ∃ us', tss[j]? = some us' ∧ ∀ u ∈ us, u ∈ us' := by
 by_cases e : j = i
 ·subst e
  rw [List.getElem?_set_self (List.getElem?_eq_some_iff.mp h).1] at hj
  cases hj
  exact ⟨_, h, fun u m => List.mem_cons_of_mem _ m⟩
 ·rw [List.getElem?_set_ne (fun z => e z.symm)] at hj
  exact ⟨us, hj, fun u m => m⟩
theorem HdOk.set {tss : TL3} {i : Nat} {ts : List (List Str)} {t : List Str} (H : HdOk tss) (h : tss[i]? = some (t :: ts)) : HdOk (tss.set i ts) := by
 refine ⟨fun j us u hj m => ?_, fun j k us vs u v hj hk mu mv e => ?_⟩
 ·obtain ⟨us', h1, h2⟩ := set_at h hj
  exact H.ne j us' u h1 (h2 u m)
 ·obtain ⟨us', h1, h2⟩ := set_at h hj
  obtain ⟨vs', h3, h4⟩ := set_at h hk
  exact H.inj j k us' vs' u v h1 h3 (h2 u mu) (h4 v mv) e
end SG
namespace PL
open PySem L2 PySem.Spec PyProof.Rows
theorem kaf {s : String} : okS (Str.ofString s) := okS_iff.mpr fun c m => by
 have e : (Str.ofString s).cps.toList = s.toList.map Char.toNat := signs_ofString s
 rw [e] at m
 obtain ⟨x, _, rfl⟩ := List.mem_map.mp m
 have := x.valid
 have h2 : x.toNat < 0x110000 := by
  rcases x.valid with h | h
  ·exact Nat.lt_trans h (by decide)
  ·exact h.2
 exact h2
theorem rchar_ok {q c : Nat} (hq : q < 0x110000) (hc : c < 0x110000) : ∀ x ∈ Builtin.Str.reprChar q c, x < 0x110000 := by
 have hex : ∀ (w x : Nat), x ∈ (let d := (Nat.toDigits 16 c).map Char.toNat; List.replicate (w - d.length) 48 ++ d) → x < 0x110000 := fun w x m => by
  rcases List.mem_append.mp m with m | m
  ·rw [List.mem_replicate] at m
   rw [m.2]; decide
  ·obtain ⟨y, _, rfl⟩ := List.mem_map.mp m
   rcases y.valid with h | h
   ·exact Nat.lt_trans h (by decide)
   ·exact h.2
 intro x m
 unfold Builtin.Str.reprChar at m
 dsimp only at m hex
 split at m
 ·simp only [List.mem_cons, List.not_mem_nil, or_false] at m
  rcases m with rfl | rfl
  ·decide
  ·exact hc
 ·split at m
  ·simp only [List.mem_cons, List.not_mem_nil, or_false] at m
   rcases m with rfl | rfl <;> decide
  ·split at m
   ·simp only [List.mem_cons, List.not_mem_nil, or_false] at m
    rcases m with rfl | rfl <;> decide
   ·split at m
    ·simp only [List.mem_cons, List.not_mem_nil, or_false] at m
     rcases m with rfl | rfl <;> decide
    ·split at m
     ·rw [List.mem_singleton.mp m]; exact hc
     ·split at m
      ·rcases List.mem_append.mp m with m | m
       ·simp only [List.mem_cons, List.not_mem_nil, or_false] at m
        rcases m with rfl | rfl <;> decide
       ·exact hex _ x m
      ·split at m
       ·rcases List.mem_append.mp m with m | m
        ·simp only [List.mem_cons, List.not_mem_nil, or_false] at m
         rcases m with rfl | rfl <;> decide
        ·exact hex _ x m
       ·rcases List.mem_append.mp m with m | m
        ·simp only [List.mem_cons, List.not_mem_nil, or_false] at m
         rcases m with rfl | rfl <;> decide
        ·exact hex _ x m
theorem okS_repr {z : Str} (h : okS z) : okS (reprText z) := okS_iff.mpr fun c m => by
 have hz := okS_iff.mp h
 have hq : reprQuote z < 0x110000 := by unfold reprQuote; split <;> decide
 have key : ∀ (l : List Nat) (acc : Array Nat), (∀ x ∈ l, x < 0x110000) → (∀ x ∈ acc.toList, x < 0x110000) → ∀ x ∈ (l.foldl (fun out c => out ++ (Builtin.Str.reprChar (reprQuote z) c).toArray) acc).toList, x < 0x110000 := by
  intro l
  induction l with
  | nil => intro acc _ h; exact h
  | cons a l ih =>
   intro acc hl ha
   refine ih _ (fun x m => hl x (List.mem_cons_of_mem _ m)) fun x m => ?_
   rw [Array.toList_append] at m
   rcases List.mem_append.mp m with m | m
   ·exact ha x m
   ·exact rchar_ok hq (hl a List.mem_cons_self) x (by simpa using m)
 unfold reprText at m
 dsimp only at m
 rw [Array.toList_push] at m
 rcases List.mem_append.mp m with m | m
 ·rw [← Array.foldl_toList] at m
  exact key z.cps.toList _ hz (fun x m => by
   simp only [List.mem_cons, List.not_mem_nil, or_false] at m
   rw [m]; exact hq) c m
 ·rw [List.mem_singleton.mp m]; exact hq
theorem okS_joinS (y : Str) (hy : okS y) : ∀ ps : List Str, (∀ p ∈ ps, okS p) → okS (Str.join y ps) := fun ps h => okS_iff.mpr fun c m => by
 have m : c ∈ TL.tl (Str.join y ps) := m
 rw [TL.tl_join] at m
 rcases LW.kbk m with z | ⟨z, q1, q2⟩
 ·exact okS_iff.mp hy c z
 ·obtain ⟨w, hw, rfl⟩ := List.mem_map.mp q1
  exact okS_iff.mp (h w hw) c q2
theorem okS_from : ∀ (ts : List Str) (k : Nat) (acc : Str), okS acc → (∀ t ∈ ts, okS t) → okS (textFrom k acc ts)
 | [], _, _, h, _ => h
 | t :: ts, k, acc, h, ht => by
  show okS (textFrom (k + 1) (acc ++ (if k > 0 then ", " else "" : String) ++ t) ts)
  exact okS_from ts (k + 1) _ (jal (jal h kaf) (ht t List.mem_cons_self)) fun u m => ht u (List.mem_cons_of_mem _ m)
mutual
theorem wbj : ∀ d : PyData, d.canLay0 = true → okS d.shown
 | .none, _ => kaf
 | .bool b, _ => by cases b <;> exact kaf
 | .int i, _ => kaf
 | .str z, h => okS_repr (show okS z by simpa only [PyData.canLay0] using h)
 | .list xs, h => by
  show okS (textFrom 0 "[" (PyData.shownAll xs) ++ "]")
  exact jal (okS_from _ _ _ kaf (qx xs (by simpa only [PyData.canLay0] using h))) kaf
 | .tuple xs, h => by
  show okS (("(" : Str) ++ Str.join ", " (PyData.shownAll xs) ++ (if (PyData.shownAll xs).length == 1 then ",)" else ")" : String))
  exact jal (jal kaf (okS_joinS _ kaf _ (qx xs (by simpa only [PyData.canLay0] using h)))) kaf
 | .dict _, h => by simp [PyData.canLay0] at h
theorem qx : ∀ xs : List PyData, PyData.canLayAll0 xs = true → ∀ t ∈ PyData.shownAll xs, okS t
 | [], _, t, m => by cases m
 | x :: xs, h, t, m => by
  have h' : x.canLay0 = true ∧ PyData.canLayAll0 xs = true := by simpa only [PyData.canLayAll0, Bool.and_eq_true] using h
  simp only [PyData.shownAll, List.mem_cons] at m
  rcases m with rfl | m
  ·exact wbj x h'.1
  ·exact qx xs h'.2 t m
end
mutual
def qy : PyData → Bool
 | .none | .bool _ | .str _ => true
 | .int i => decide (i.natAbs < 10 ^ 12)
 | .list xs | .tuple xs => vm xs
 | .dict _ => false
def vm : List PyData → Bool
 | [] => true
 | x :: xs => qy x && vm xs
end
mutual
theorem sm_short : ∀ d : PyData, qy d = true → d.intsShort 13 = true ∧ d.showable = true ∧ d.hasDict = false
 | .none, _ => ⟨rfl, rfl, rfl⟩
 | .bool _, _ => ⟨rfl, rfl, rfl⟩
 | .str _, _ => ⟨rfl, rfl, rfl⟩
 | .int i, h => by
  have h : i.natAbs < 10 ^ 12 := by simpa only [qy, decide_eq_true_eq] using h
  refine ⟨?_, ?_, rfl⟩
  ·simp only [PyData.intsShort, decide_eq_true_eq]
   exact PyData.shown_int_le h
  ·show decide (i.natAbs.log2 < 1920) = true
   refine decide_eq_true ?_
   by_cases z : i.natAbs = 0
   ·rw [z]; decide
   ·have := (Nat.log2_lt z).mpr (Nat.lt_trans h (by decide : 10 ^ 12 < 2 ^ 100))
    omega
 | .list xs, h => by
  obtain ⟨h1, h2, h3⟩ := vaa xs (by simpa only [qy] using h)
  exact ⟨by simpa only [PyData.intsShort] using h1, h2, by simpa only [PyData.hasDict] using h3⟩
 | .tuple xs, h => by
  obtain ⟨h1, h2, h3⟩ := vaa xs (by simpa only [qy] using h)
  exact ⟨by simpa only [PyData.intsShort] using h1, h2, by simpa only [PyData.hasDict] using h3⟩
 | .dict _, h => by simp [qy] at h
theorem vaa : ∀ xs : List PyData, vm xs = true → PyData.intsShortAll 13 xs = true ∧ PyData.showableAll xs = true ∧ PyData.hasDictAll xs = false
 | [], _ => ⟨rfl, rfl, rfl⟩
 | x :: xs, h => by
  have h' : qy x = true ∧ vm xs = true := by simpa only [vm, Bool.and_eq_true] using h
  obtain ⟨a1, a2, a3⟩ := sm_short x h'.1
  obtain ⟨b1, b2, b3⟩ := vaa xs h'.2
  refine ⟨by simp only [PyData.intsShortAll, a1, b1, Bool.and_true], ?_, by simp only [PyData.hasDictAll, a3, b3, Bool.or_false]⟩
  show (x.showable && PyData.showableAll xs) = true
  rw [a2, b2]; rfl
end
structure Rp (d : D) : Prop where
 s : shp d = true
 p : dep d ≤ 50
 i : qy (py d) = true
 w : (py d).weight ≤ 2 ^ 20
theorem Rp.ok {d : D} (h : Rp d) : ∃ z, (py d).shown = z ∧ okS z ∧ repB d = some (rvS z) := by
 obtain ⟨h1, h2, h3⟩ := sm_short _ h.i
 have hc := shp_lay h.s
 obtain ⟨e1, e2⟩ := zan h.s
 have hd : (py d).depth ≤ 60 := by
  have := h.p
  unfold dep at this
  omega
 have hl : (py d).shown.length ≤ sizeLine := PyData.shown_fits_of_layable0 (B := 13) (by decide) (by decide) (by
  show ((py d).canLay0 && decide ((py d).depth ≤ 64) && decide ((py d).weight ≤ 2 ^ 20)) = true
  rw [hc, decide_eq_true (by omega), decide_eq_true h.w]; rfl) h1
 refine ⟨_, rfl, wbj _ hc, ?_⟩
 unfold repB
 rw [e1]
 dsimp only
 rw [if_pos (by rw [h2, h3, decide_eq_true hd, decide_eq_true hl]; rfl)]
theorem Rp.tup {ds : List D} (h : Rp (.tup ds)) : ∃ z, okS z ∧ reprGD [.tup ds] = some (rvS z) := by
 obtain ⟨z, _, h1, h2⟩ := h.ok
 exact ⟨z, h1, h2⟩
theorem Rp.lst {ds : List D} (h : Rp (.lst ds)) : ∃ z, okS z ∧ reprGD [.lst ds] = some (rvS z) := by
 obtain ⟨z, _, h1, h2⟩ := h.ok
 exact ⟨z, h1, h2⟩
structure Wg (n B : Nat) (d : D) : Prop where
 s : shp d = true
 p : dep d ≤ n
 i : qy (py d) = true
 w : (py d).weight ≤ B
theorem Wg.mono {n m B C : Nat} {d : D} (h : Wg n B d) (h1 : n ≤ m) (h2 : B ≤ C) : Wg m C d := ⟨h.s, Nat.le_trans h.p h1, h.i, Nat.le_trans h.w h2⟩
theorem Wg.str {B : Nat} {z : Str} (h : okS z) (hl : z.length ≤ B) : Wg 0 B (.s (.str z)) := by
 refine ⟨(Sh.str h).s, (Sh.str h).p, ?_, ?_⟩
 ·rw [show py (.s (.str z)) = .str z from rfl]; rfl
 ·rw [show py (.s (.str z)) = .str z from rfl]; exact hl
theorem Wg.non {B : Nat} : Wg 0 B (.s .non) := ⟨Sh.non.s, Sh.non.p, rfl, Nat.zero_le _⟩
theorem Wg.bl {B : Nat} {b : Bool} (hB : 1 ≤ B) : Wg 0 B (.s (.bl b)) := ⟨Sh.bl.s, Sh.bl.p, rfl, by
 show (PyData.bool b).weight ≤ B
 cases b <;> simp [PyData.weight]⟩
theorem sm_all : ∀ {ds : List D}, (∀ d ∈ ds, qy (py d) = true) → vm (ds.map py) = true
 | [], _ => rfl
 | d :: ds, h => by
  show (qy (py d) && vm (ds.map py)) = true
  rw [h d List.mem_cons_self, sm_all fun x m => h x (List.mem_cons_of_mem _ m)]; rfl
theorem wg_all {B : Nat} : ∀ {ds : List D}, (∀ d ∈ ds, (py d).weight ≤ B) → PyData.weightAll (ds.map py) ≤ ds.length * (B + 1)
 | [], _ => Nat.zero_le _
 | d :: ds, h => by
  have ih := wg_all (B := B) (ds := ds) fun x m => h x (List.mem_cons_of_mem _ m)
  have h1 := h d List.mem_cons_self
  show (py d).weight + 1 + PyData.weightAll (ds.map py) ≤ (ds.length + 1) * (B + 1)
  rw [Nat.succ_mul]
  omega
theorem Wg.tup {n B L : Nat} {ds : List D} (h : ∀ d ∈ ds, Wg n B d) (hl : ds.length ≤ L) (hn : n ≤ 62) : Wg (n + 1) (L * (B + 1)) (.tup ds) := by
 have hs : ∀ d ∈ ds, Sh n d := fun d m => ⟨(h d m).s, (h d m).p⟩
 have ht := Sh.tup hs (by omega)
 have e : py (.tup ds) = .tuple (ds.map py) := yw fun d m => (h d m).s
 refine ⟨ht.s, ht.p, ?_, ?_⟩
 ·rw [e]
  exact sm_all fun d m => (h d m).i
 ·rw [e]
  exact Nat.le_trans (wg_all fun d m => (h d m).w) (Nat.mul_le_mul_right _ hl)
theorem Wg.lst {n B L : Nat} {ds : List D} (h : ∀ d ∈ ds, Wg n B d) (hl : ds.length ≤ L) (hn : n ≤ 62) : Wg (n + 1) (L * (B + 1)) (.lst ds) := by
 have hs : ∀ d ∈ ds, Sh n d := fun d m => ⟨(h d m).s, (h d m).p⟩
 have ht := Sh.lst hs (by omega)
 have e : py (.lst ds) = .list (ds.map py) := py_lst fun d m => (h d m).s
 refine ⟨ht.s, ht.p, ?_, ?_⟩
 ·rw [e]
  exact sm_all fun d m => (h d m).i
 ·rw [e]
  exact Nat.le_trans (wg_all fun d m => (h d m).w) (Nat.mul_le_mul_right _ hl)
end PL
namespace PL
open PySem PySem.Spec PyProof.Rows L2
end PL
namespace PL
open PySem L2
end PL
namespace PL
open PySem L2 PySem.Spec PyProof.Rows
end PL
namespace LW
open PySem L2 PL
end LW
namespace PL.TW
open PySem PySem.Calls PyProof.Rows PySem.Spec L2 PL.TN
def MaskW (m : Nat) : Prop := m = 7 ∨ m = 31 ∨ m = 127 ∨ m = 511 ∨ m = 2047 ∨ m = 8191
theorem MaskW.le {m : Nat} (h : MaskW m) : m ≤ 8191 := by unfold MaskW at h; omega
theorem way_in {m k : Nat} {h : Int} : way m h k ≤ m := by
 have b1 : SetTable.bits h % (m + 1) ≤ m := Nat.le_of_lt_succ (Nat.mod_lt _ (Nat.succ_pos m))
 have b2 := runEnd_bd b1
 have b3 := nth_in (m := m) k (runAt m (SetTable.bits h % (m + 1)) (SetTable.bits h)) (show SetTable.bits h % (m + 1) + (SetTable.runEnd m (SetTable.bits h % (m + 1)) - SetTable.bits h % (m + 1)) ≤ m by omega)
 exact Nat.le_trans (Nat.le_add_right _ _) b3
structure TabW (t : SetTable) (hs : List Int) : Prop where
 up : Ris t.place.toList
 clean : t.dummies = #[]
 len : t.place.size = hs.length
 mask : MaskW t.mask
 inn : ∀ x ∈ t.place.toList, x ≤ t.mask
 met : ∀ (i : Nat) (h : Int) (j : Nat), hs[i]? = some h → t.place.toList[i]? = some j → ∃ k, way t.mask h k = j ∧ ∀ c, c < k → way t.mask h c ∈ t.place.toList
theorem TabW.put {t : SetTable} {hs : List Int} (T : TabW t hs) {h : Int} {K : Nat} (free : way t.mask h K ∉ t.place.toList) (held : ∀ c, c < K → way t.mask h c ∈ t.place.toList) :
  SetTable.below t.place (way t.mask h K) ≤ hs.length ∧ TabW (t.put (way t.mask h K)).1 (hs.take (SetTable.below t.place (way t.mask h K)) ++ h :: hs.drop (SetTable.below t.place (way t.mask h K))) ∧
   (t.put (way t.mask h K)).1.fill = hs.length + 1 := by
 have hle : way t.mask h K ≤ t.mask := way_in
 generalize hj : way t.mask h K = j at free hle ⊢
 have cut := (below_cut T.up j).1
 have p1 : SetTable.below t.place j ≤ t.place.toList.length := cut
 have p2 : SetTable.below t.place j ≤ hs.length := by rw [← T.len]; exact cut
 have place := put_place t j
 have size : (t.put j).1.place.size = hs.length + 1 := by
  rw [← Array.length_toList, place, len_ins _ p1, Array.length_toList, T.len]
 have more : ∀ x, x ∈ t.place.toList → x ∈ (t.put j).1.place.toList := fun x hx => by
  rw [place]; exact mem_ins.mpr (.inr hx)
 refine ⟨p2, ⟨ris_insert T.up fun e => free (List.mem_of_getElem? (by rw [Array.getElem?_toList]; exact e)), put_dm T.clean j, by rw [len_ins _ p2]; exact size, T.mask, fun x hx => ?_, fun i h' j' e1 e2 => ?_⟩, ?_⟩
 ·rw [place] at hx
  rcases mem_ins.mp hx with rfl | hx
  ·exact hle
  ·exact T.inn x hx
 ·rw [tins_get hs p2] at e1
  rw [place, tins_get _ p1] at e2
  have keep : (∃ k, way t.mask h' k = j' ∧ ∀ c, c < k → way t.mask h' c ∈ t.place.toList) → ∃ k, way t.mask h' k = j' ∧ ∀ c, c < k → way t.mask h' c ∈ (t.put j).1.place.toList :=
   fun ⟨k, a, b⟩ => ⟨k, a, fun c hc => more _ (b c hc)⟩
  by_cases c1 : i < SetTable.below t.place j
  ·rw [if_pos c1] at e1 e2
   exact keep (T.met i h' j' e1 e2)
  ·by_cases c2 : i = SetTable.below t.place j
   ·rw [if_neg c1, if_pos c2] at e1 e2
    cases e1
    cases e2
    exact keep ⟨K, hj, held⟩
   ·rw [if_neg c1, if_neg c2] at e1 e2
    exact keep (T.met _ h' j' e1 e2)
 ·have d := put_dm T.clean j
  show (t.put j).1.place.size + (t.put j).1.dummies.size = _
  rw [size, d]
  rfl
end PL.TW
namespace PL.TW
open PySem PySem.Calls PyProof.Rows PySem.Spec L2 PL.TN
structure SetW (w : World) (h : Heap) (a : Addr) (L : LK) (es : Array (Int × Value)) (ep : Nat) (t : SetTable) : Prop where
 ob : ∃ o, h.get? a = some o ∧ o.ExactSet ∧ o.data = .set es ep t
 rw : es.toList = rowsN w L
 tb : TabW t (hsN w L)
 nd : (L.map (·.2)).Nodup
 is : ∀ p ∈ L, IsN h p.2 p.1
 led : w.params.followText "set-order" = true ∨ t.led = true
 rm : L.length * 5 < t.mask * 3
 fw : L.length < 2000
section
variable {P : Program} {w : World} {A : Around} {E : Value → Shared → Prop} {s : Shared} {a : Addr} {L : LK} {es : Array (Int × Value)} {ep : Nat} {t : SetTable}
theorem fitsW (T : TabW t (hsN w L)) (e : es.size = L.length) (m : L.length ≤ t.mask) : t.fits es.size = true := by
 have q := T.len
 rw [hsN_len] at q
 unfold SetTable.fits SetTable.fill
 rw [T.clean, Bool.and_eq_true, beq_iff_eq, decide_eq_true_eq]
 refine ⟨by omega, ?_⟩
 show t.place.size + 0 ≤ t.mask
 omega
theorem SetW.fits (R : SetW w s.heap a L es ep t) : t.fits es.size = true := fitsW R.tb (wa4 R.rw) (by have := R.rm; omega)
theorem SetW.row (R : SetW w s.heap a L es ep t) {i : Nat} {p : Addr × NestedKey} (e : L[i]? = some p) : es[i]? = some (p.2.hash w, Value.ref p.1) := by
 rw [← Array.getElem?_toList, R.rw]
 unfold rowsN
 rw [List.getElem?_map, e]; rfl
end
end PL.TW
namespace PL.TW
open PySem PySem.Calls PyProof.Rows PySem.Spec L2 PL.SX PL.TN
section
variable {P : Program} {w : World} {A : Around} {E : Value → Shared → Prop} {s : Shared}
theorem SetW.at {h h' : Heap} {a : Addr} {L : LK} {es : Array (Int × Value)} {ep : Nat} {t : SetTable} (R : SetW w h a L es ep t) (up : ∀ o, h.get? a = some o → h'.get? a = some o) (is : ∀ p ∈ L, IsN h' p.2 p.1) : SetW w h' a L es ep t := by
 obtain ⟨o, e, r⟩ := R.ob
 exact ⟨⟨o, up o e, r⟩, R.rw, R.tb, R.nd, is, R.led, R.rm, R.fw⟩
end
end PL.TW
namespace PL
open PySem PySem.Spec PyProof.Rows L2 LW
end PL
namespace PL
open PySem PySem.Spec PyProof.Rows L2
end PL
namespace LW
open PySem L2 PL
def tI (y : List Int) : D := .tup (y.map zi)
def ch : Nat → Nat → Nat
 | _, 0 => 1
 | 0, _ + 1 => 0
 | n + 1, k + 1 => ch n k + ch n (k + 1)
end LW
namespace LW
open PySem L2 PL SG
local macro_rules | `(tactic| walk_at "w") => `(tactic| (try simp only [PL.wp_seq, PL.wp_set, PL.ja8, PL.wbe, PL.wp_op, PL.wp_un, PL.wp_var, PL.wp_c, PL.xaw, PL.kaw, PL.yar, PL.kar, PL.zar, PL.x7, PL.xar, PL.xas, PL.zas, PL.kas, PL.xav, PL.zav, PL.xba, PL.zba, PL.yav, PL.vav, PL.was, PL.jbc, PL.zbc, PL.qat, PL.qa8, PL.yaq, PL.qa9, PL.wp_brk, PL.ya9, PL.va9, PL.wau, PL.vai, PL.y6, PL.x6, PL.kah, PL.xah, PL.yaf, PL.jag, PL.waf, List.set_cons_zero, List.set_cons_succ, List.length_cons, List.length_nil, PL.addD, PL.subD, PL.zaq, PL.mulD, PL.modD, PL.za3, PL.wp_run, List.cons_append, List.nil_append, List.replicate, List.getElem?_cons_zero, List.getElem?_cons_succ, PL.za9, PL.xag, PL.q7, PL.vas, PL.kbe, PL.vbe, PL.isB_bl, PL.qbf, PL.wp_call, PL.wac, PL.wa7, PL.wp_ud, PL.wp_um, PL.kae, PL.yae, PL.vae, PL.kaj, PL.yaj, PL.vaj, PL.qaw, PL.zaw, PL.jaw, PL.wp_cb, PL.wp_nil, PL.wa9, PL.wae, PL.kad, PL.ya7, PL.vaq, PL.wp_tup, PL.wp_lst, PL.zaa, PL.wp_and, PL.wp_or, PL.wp_not, PL.jba, PL.wp_orV, PL.yba, PL.wa8, PL.wp_ifE, PL.jar, PL.wp_m1, PL.wp_zno, PL.wp_zat, PL.wp_sl, PL.wp_sif, PL.qad, PL.wp_ext, PL.ja9, PL.j5, PL.x4, PL.yad, PL.w4, PL.za8, PL.xo, PL.yas, PL.war, PL.xau, PL.jbf, PL.jaf, PL.qaf, PL.jbi, PL.aN_eq, PL.aT_tup, PL.vaw, PL.kbh, PL.z5, PL.x5, PL.qae, PL.wad, PL.wat, PL.qau, PL.ybd, PL.yat, PL.vbf, PL.qbd, PL.lt_int, PL.lt_str, PL.le_int, PL.gt_int, PL.ge_int, PL.kbd, PL.xbd, PL.vat, PL.kat, PL.vbd, PL.vba, PL.kba, PL.sl_lst, PL.sl_tup, PL.sl_ro, PL.sl_str, PL.neg_int, PL.is_bl, PL.jah, PL.is_none, PL.qt, PL.zat, PL.none_int, PL.none_str, PL.ybc, PL.xat, PL.jat, PL.zbh, PL.xbh, PL.xae, PL.y5, PL.yau, Nat.reduceAdd, Nat.reduceSub, Nat.zero_add, Bool.not_true, Bool.not_false, Bool.false_eq_true, if_true, if_false, PL.qba, PL.waa, PL.yg, decide_eq_true_eq, PL.zbe, PL.ixw_ro, PL.qbe, PL.jbe, PL.atI_0, PL.atI_1, PL.atI_2, PL.vau, PL.kau, PL.kag, PL.dv_dic, PL.wbf, PL.ybf, PL.dvQ_dk, PL.dvQ_dt, PL.qbg, PL.dGet_k, PL.dGet_t, PL.qar, PL.waq, PL.v5, PL.zau, PL.ka8, PL.jau, PL.wp_app,  PL.putQ_k, PL.putQ_t, PL.zad, PL.jad, PL.xad, PL.qbc, PL.inlQ_l, PL.va8, List.take_succ_cons, List.take_zero, Option.map_some, Option.map_none, PL.zf, PL.zd, PL.ke, PL.jk, PL.ji, PL.zm, PL.qi, PL.qk, PL.jm, PL.wh, PL.wj, PL.yh, PL.vh, PL.qh, PL.wp_setF, PL.wp_make, PL.wp_bare, PL.peek_ob, PL.cdat_ob, PL.wpG_ob, PL.borQ_ob, PL.obQ_ob, PL.madeQ_ob, PL.none_obj, PL.ka9, PL.wbk, PL.isSeq_ro, PL.zah, PL.wp_part, PL.wp_partL, List.map_cons, List.map_nil, PL.putG, PL.wp_raise, PL.wbh, PL.wp_try, PL.none_exc, PL.none_dic, PL.fDic0, PL.powD, PL.absD, PL.wp_setX, PL.wp_nnew, PL.qa4, LW.yah, LW.v9, LW.xao, LW.xaj, LW.qai, LW.w9, LW.k8, LW.qz, LW.zao, LW.zaj, LW.vaz, LW.yap, LW.jao, LW.jaj, LW.qao, LW.qaj, LW.wah, LW.y9, LW.v8, LW.jz, LW.y8, LW.zz, LW.zy, LW.yu, LW.wu, LW.jy, LW.ku, LW.xf, LW.km, LW.xj, LW.vr, LW.vx, LW.kx, LW.vp, LW.qah, LW.x8, LW.wq, LW.yan, LW.y7, LW.wag, LW.z8, LW.wx, LW.vo, LW.yag, LW.zx, LW.w7, LW.j8, LW.yx, LW.xm, LW.zo, LW.zu, LW.yj, PL.ja6, PL.q7, LW.kai, LW.jap, LW.ja0, LW.qap, LW.xai, LW.k9, LW.x9, LW.zai, LW.z9, LW.wao, LW.qa0, LW.waz, LW.yao, LW.j9, LW.vao, LW.yaz, LW.kao, LW.jai, LW.q9, LW.ky, LW.w8, LW.xy, LW.xu, PL.wp_peel, PL.peel_dat, PL.un1_lab, PL.un1_tup, PL.un1_lst]))
local macro_rules | `(tactic| walk_at "wph") => `(tactic| (try simp only [PL.wp_seq, PL.wp_set, PL.ja8, PL.wbe, PL.wp_op, PL.wp_un, PL.wp_var, PL.wp_c, PL.xaw, PL.kaw, PL.yar, PL.kar, PL.zar, PL.x7, PL.xar, PL.xas, PL.zas, PL.kas, PL.xav, PL.zav, PL.xba, PL.zba, PL.yav, PL.vav, PL.was, PL.jbc, PL.zbc, PL.qat, PL.qa8, PL.yaq, PL.qa9, PL.wp_brk, PL.ya9, PL.va9, PL.wau, PL.vai, PL.y6, PL.x6, PL.kah, PL.xah, PL.yaf, PL.jag, PL.waf, List.set_cons_zero, List.set_cons_succ, List.length_cons, List.length_nil, PL.addD, PL.subD, PL.zaq, PL.mulD, PL.modD, PL.za3, PL.wp_run, List.cons_append, List.nil_append, List.replicate, List.getElem?_cons_zero, List.getElem?_cons_succ, PL.za9, PL.xag, PL.q7, PL.vas, PL.kbe, PL.vbe, PL.isB_bl, PL.qbf, PL.wp_call, PL.wac, PL.wa7, PL.wp_ud, PL.wp_um, PL.kae, PL.yae, PL.vae, PL.kaj, PL.yaj, PL.vaj, PL.qaw, PL.zaw, PL.jaw, PL.wp_cb, PL.wp_nil, PL.wa9, PL.wae, PL.kad, PL.ya7, PL.vaq, PL.wp_tup, PL.wp_lst, PL.zaa, PL.wp_and, PL.wp_or, PL.wp_not, PL.jba, PL.wp_orV, PL.yba, PL.wa8, PL.wp_ifE, PL.jar, PL.wp_m1, PL.wp_zno, PL.wp_zat, PL.wp_sl, PL.wp_sif, PL.qad, PL.wp_ext, PL.ja9, PL.j5, PL.x4, PL.yad, PL.w4, PL.za8, PL.xo, PL.yas, PL.war, PL.xau, PL.jbf, PL.jaf, PL.qaf, PL.jbi, PL.aN_eq, PL.aT_tup, PL.vaw, PL.kbh, PL.z5, PL.x5, PL.qae, PL.wad, PL.wat, PL.qau, PL.ybd, PL.yat, PL.vbf, PL.qbd, PL.lt_int, PL.lt_str, PL.le_int, PL.gt_int, PL.ge_int, PL.kbd, PL.xbd, PL.vat, PL.kat, PL.vbd, PL.vba, PL.kba, PL.sl_lst, PL.sl_tup, PL.sl_ro, PL.sl_str, PL.neg_int, PL.is_bl, PL.jah, PL.is_none, PL.qt, PL.zat, PL.none_int, PL.none_str, PL.ybc, PL.xat, PL.jat, PL.zbh, PL.xbh, PL.xae, PL.y5, PL.yau, Nat.reduceAdd, Nat.reduceSub, Nat.zero_add, Bool.not_true, Bool.not_false, Bool.false_eq_true, if_true, if_false, PL.qba, PL.waa, PL.yg, decide_eq_true_eq, PL.zbe, PL.ixw_ro, PL.qbe, PL.jbe, PL.atI_0, PL.atI_1, PL.atI_2, PL.vau, PL.kau, PL.kag, PL.dv_dic, PL.wbf, PL.ybf, PL.dvQ_dk, PL.dvQ_dt, PL.qbg, PL.dGet_k, PL.dGet_t, PL.qar, PL.waq, PL.v5, PL.zau, PL.ka8, PL.jau, PL.wp_app,  PL.putQ_k, PL.putQ_t, PL.zad, PL.jad, PL.xad, PL.qbc, PL.inlQ_l, PL.va8, List.take_succ_cons, List.take_zero, Option.map_some, Option.map_none, PL.zf, PL.zd, PL.ke, PL.jk, PL.ji, PL.zm, PL.qi, PL.qk, PL.jm, PL.wh, PL.wj, PL.yh, PL.vh, PL.qh, PL.wp_setF, PL.wp_make, PL.wp_bare, PL.peek_ob, PL.cdat_ob, PL.wpG_ob, PL.borQ_ob, PL.obQ_ob, PL.madeQ_ob, PL.none_obj, PL.ka9, PL.wbk, PL.isSeq_ro, PL.zah, PL.wp_part, PL.wp_partL, List.map_cons, List.map_nil, PL.putG, PL.wp_raise, PL.wbh, PL.wp_try, PL.none_exc, PL.none_dic, PL.fDic0, PL.powD, PL.absD, PL.wp_setX, PL.wp_nnew, PL.qa4, LW.yah, LW.v9, LW.xao, LW.xaj, LW.qai, LW.w9, LW.k8, LW.qz, LW.zao, LW.zaj, LW.vaz, LW.yap, LW.jao, LW.jaj, LW.qao, LW.qaj, LW.wah, LW.y9, LW.v8, LW.jz, LW.y8, LW.zz, LW.zy, LW.yu, LW.wu, LW.jy, LW.ku, LW.xf, LW.km, LW.xj, LW.vr, LW.vx, LW.kx, LW.vp, LW.qah, LW.x8, LW.wq, LW.yan, LW.y7, LW.wag, LW.z8, LW.wx, LW.vo, LW.yag, LW.zx, LW.w7, LW.j8, LW.yx, LW.xm, LW.zo, LW.zu, LW.yj, PL.ja6, PL.q7, LW.kai, LW.jap, LW.ja0, LW.qap, LW.xai, LW.k9, LW.x9, LW.zai, LW.z9, LW.wao, LW.qa0, LW.waz, LW.yao, LW.j9, LW.vao, LW.yaz, LW.kao, LW.jai, LW.q9, LW.ky, LW.w8, LW.xy, LW.xu, PL.wp_peel, PL.peel_dat, PL.un1_lab, PL.un1_tup, PL.un1_lst, true_and, and_true, and_self, List.nodup_nil, PL.okS, PL.eqD_str, PL.neD_str, beq_self_eq_true, decide_true, Int.cast_ofNat_Int, Int.reduceBEq, Int.reduceBNe, Int.reduceLT, Int.reduceLE, Int.reduceAdd, Int.reduceSub, Nat.reduceBEq, *]))
local macro_rules | `(tactic| walk_at "fin") => `(tactic| first | trivial | rfl | decide | (simp; done) | omega)
local macro_rules | `(tactic| walk_at "sd") => `(tactic| repeat (with_reducible refine And.intro ?_ ?_; (first | decide | trivial | (exact ⟨by decide, trivial⟩) | (exact ja (by decide)) | (exact ja (by omega)) | (exact wal (by omega) (by omega)) | (exact wal (by decide) (by decide)) | (exact ⟨wal (by omega) (by omega), wal (by omega) (by omega)⟩) | (simp; done))))
def Kd.obj (A : Ads) : Kd → D
 | .any => jay A
 | .num _ _ => jay A
 | .amg _ => jay A
 | .beg z => o_Begins A (zs z)
def Pl.obj (A : Ads) (p : Pl) : D := jab A (zs p.name) (p.k.obj A) (zs p.o.s)
abbrev plD (A : Ads) (ps : List Pl) : D := .tup (ps.map (Pl.obj A))
section
variable {A : Ads} {Q : Rv → En → Prop} {QF : Fl → En → Prop} {E : Exn → En → Prop} {dw db dn : D}
theorem letters_ok {z : Str} {a b : Int} (hk : okS z) (hl : z.length ≤ 200) (h : Q (rvB ((decide (a ≤ (z.length : Int)) && decide ((z.length : Int) ≤ b)) && z7 lettersS z)) [.dat (zs z), .dat (zi a), .dat (zi b)]) : wp (wb A) Q E [.dat (zs z), .dat (zi a), .dat (zi b)] := by
 unfold wb zg
 walk_at "w"
 refine ⟨ja (by omega), ?_⟩
 by_cases c1 : a ≤ (z.length : Int)
 ·rw [if_pos c1]
  rw [decide_eq_true c1] at h
  by_cases c2 : (z.length : Int) ≤ b
  ·rw [if_pos c2]
   rw [decide_eq_true c2] at h
   refine ⟨ja (by omega), ?_⟩
   rw [eqD_str (okS_strip _ hk) okS_empty, strip_none]
   walk_at "w"
   exact h
  ·rw [if_neg c2]
   rw [decide_eq_false c2] at h
   exact h
 ·rw [if_neg c1]
  rw [decide_eq_false c1] at h
  exact h
def nameOk (z : Str) : Prop := (2 ≤ z.length ∧ z.length ≤ 8) ∧ z7 lettersS z = true
def okPl (p : Pl) : Prop := nameOk p.name ∧ p.k.ok
theorem kd_isi {k : Kd} : isiD A.K A.cs [k.obj A, .s (.ref A.c_Kind)] = some (rvB true) := by
 cases k
 ·exact xf
 ·exact xf
 ·exact xf
 ·exact km
theorem wav {F : PL.P Rv} {cs : List Cell} {b : Bool} (h : wp F (fun v _ => v = rvB b) EF cs) : va3 F cs = some b := by
 obtain ⟨a, r, h1, rfl⟩ := wp_get h
 unfold va3
 rw [h1]
end
section
variable {A : Ads} {Q : Rv → En → Prop} {QF : Fl → En → Prop} {E : Exn → En → Prop}
def ltD : Option Str → D
 | none => .s .non
 | some z => zs z
def kdD (A : Ads) : Option Kd → D
 | none => .s .non
 | some k => k.obj A
def Wx.obj (A : Ads) (w : Wx) : D := jj A (zs w.name) (ltD w.letter) (kdD A w.kind) (zb w.may) (zb w.many) (zb w.must)
def okLt (z : Str) : Prop := z.length = 1 ∧ z7 lettersS z = true
structure okWx (w : Wx) : Prop where
 n : nameOk w.name
 l : ∀ z, w.letter = some z → okLt z
 m : w.may = true → w.kind.isSome = true
 k : ∀ k, w.kind = some k → k.ok
abbrev wxD (A : Ads) (ws : List Wx) : D := .tup (ws.map (Wx.obj A))
def ltV : Option Str → V
 | none => .non
 | some z => .str z
theorem in_lt (z : Str) (ls : List (Option Str)) : inD (zs z) (.lst (ls.map ltD)) = some (rvB (decide (some z ∈ ls))) := by
 show (match yo (zs z) (ls.map ltD) with | some b => some (rvB b) | none => none) = _
 have h1 : (ls.map ltD).all zbl = true := List.all_eq_true.mpr fun d m => by
  obtain ⟨o, _, rfl⟩ := List.mem_map.mp m
  cases o <;> rfl
 unfold yo
 rw [if_pos (by rw [h1]; rfl)]
 have h2 : (ls.map ltD).map sV = ls.map ltV := by
  rw [List.map_map]
  exact List.map_congr_left fun o _ => by cases o <;> rfl
 rw [h2]
 dsimp only
 congr 2
 show (ls.map ltV).any (fun y => eqV y (.str z)) = _
 rw [List.any_map]
 induction ls with
 | nil => rfl
 | cons o ls ih =>
  rw [List.any_cons, ih (by
   rw [List.map_cons, List.all_cons, Bool.and_eq_true] at h1
   exact h1.2) (by rw [List.map_map]; exact List.map_congr_left fun o _ => by cases o <;> rfl)]
  cases o with
  | none => simp [ltV, eqV]
  | some y =>
   by_cases c : y = z
   ·subst c; simp [ltV, eqV]
   ·have c2 : ¬ z = y := fun e => c e.symm
    simp [ltV, eqV, c, c2]
def prD (p : Str × Str) : D := .tup [zs p.1, zs p.2]
theorem pr_py {p : Str × Str} (h : okS p.1 ∧ okS p.2) : shp (prD p) = true ∧ dep (prD p) ≤ 1 ∧ py (prD p) = .tuple [.str p.1, .str p.2] := by
 have hs : ∀ d ∈ [zs p.1, zs p.2], Sh 0 d := fun d m => by
  simp only [List.mem_cons, List.not_mem_nil, or_false] at m
  rcases m with rfl | rfl
  ·exact Sh.str h.1
  ·exact Sh.str h.2
 have := Sh.tup hs (by decide)
 exact ⟨this.s, this.p, by unfold prD; rw [yw fun d m => (hs d m).s]; rfl⟩
theorem eqv_pr (a b c d : Str) : PyData.eqv (.tuple [.str a, .str b]) (.tuple [.str c, .str d]) = (a == c && b == d) := by
 rw [PL.ym]
 simp [PyData.eqvAll, PyData.eqv]
theorem in_prs {p : Str × Str} {ps : List (Str × Str)} (h : okS p.1 ∧ okS p.2) (hs : ∀ q ∈ ps, okS q.1 ∧ okS q.2) : inXB (prD p) (.tup (ps.map prD)) = some (decide (p ∈ ps)) ∧ inXB (prD p) (.lst (ps.map prD)) = some (decide (p ∈ ps)) := by
 have h0 := pr_py h
 have h1 : ∀ d ∈ ps.map prD, shp d = true := fun d m => by obtain ⟨q, hq, rfl⟩ := List.mem_map.mp m; exact (pr_py (hs q hq)).1
 have h2 : ∀ d ∈ ps.map prD, dep d ≤ 1 := fun d m => by obtain ⟨q, hq, rfl⟩ := List.mem_map.mp m; exact (pr_py (hs q hq)).2.1
 have := PL.inX_of h0.1 h1 h2 (by decide)
 have e : ((ps.map prD).any fun z => PyData.eqv (py z) (py (prD p))) = decide (p ∈ ps) := by
  rw [List.any_map, Bool.eq_iff_iff, List.any_eq_true, decide_eq_true_eq]
  constructor
  ·rintro ⟨q, hq, e⟩
   rw [Function.comp_apply, (pr_py (hs q hq)).2.2, h0.2.2, eqv_pr, Bool.and_eq_true, beq_iff_eq, beq_iff_eq] at e
   have : q = p := Prod.ext e.1 e.2
   exact this ▸ hq
  ·intro m
   exact ⟨p, m, by rw [Function.comp_apply, h0.2.2, eqv_pr, beq_self_eq_true, beq_self_eq_true]; rfl⟩
 rw [e] at this
 exact this
theorem in_lstS (w : Str) (ws : List Str) : inD (zs w) (.lst (ws.map zs)) = some (rvB (inW w ws)) := by
 show (match yo (zs w) (ws.map zs) with | some b => some (rvB b) | none => none) = _
 unfold yo
 rw [if_pos (by rw [xbq]; rfl), sV_zs]
 rfl
def Tb.obj (A : Ads) (tb : Tb) : D := qay A (wxD A tb.ws) (plD A tb.ps) (.tup (tb.bs.map prD)) (.tup (tb.ds.map prD))
end
def OVf (d : D) : Prop := d = .s .non ∨ (∃ i, d = zi i) ∨ (∃ b, d = zb b) ∨ ∃ z, d = zs z ∧ okS z ∧ z.length ≤ 200
def OV (d : D) : Prop := OVf d ∨ ∃ l, d = .tup l
def OVo (d : D) : Prop := OVf d ∨ ∃ ws : List Str, d = .tup (ws.map zs) ∧ ∀ w ∈ ws, okS w
inductive Kv where
 | kd (k : Kd)
 | vd (d : D)
def Kv.D (A : Ads) : Kv → D
 | .kd k => k.obj A
 | .vd d => d
def isKv : Kv → Bool
 | .kd _ => true
 | .vd _ => false
def KvOk : Kv → Prop
 | .kd k => k.ok
 | .vd d => OV d
inductive Th where
 | w (n l : D) (k : Kv) (m1 m2 m3 : D)
 | p (n : D) (k : Kv) (o : D)
 | d (v : D)
def Th.D (A : Ads) : Th → D
 | .w n l k m1 m2 m3 => jj A n l (k.D A) m1 m2 m3
 | .p n k o => jab A n (k.D A) o
 | .d v => v
def DV (d : D) : Prop := d = .s .non ∨ (∃ z, d = zs z ∧ okS z) ∨ (∃ l, d = .tup l ∧ l.length ≤ 3 ∧ ∀ x ∈ l, OVf x) ∨ ∃ l, d = .lst l
def ThOk : Th → Prop
 | .w n l k m1 m2 m3 => OV n ∧ OVf l ∧ KvOk k ∧ OVf m1 ∧ OVf m2 ∧ OVf m3
 | .p n k o => OV n ∧ KvOk k ∧ OVo o
 | .d v => DV v
def xc : D → Int → Int → Bool
 | .s (.str z), a, b => (decide (a ≤ (z.length : Int)) && decide ((z.length : Int) ≤ b)) && z7 lettersS z
 | _, _, _ => false
def strD : D → Str
 | .s (.str z) => z
 | _ => ""
def isBl : D → Bool
 | .s (.bl _) => true
 | _ => false
def blOf : D → Bool
 | .s (.bl b) => b
 | _ => false
def kindB : Kv → D → Bool
 | .kd _, _ => true
 | .vd d, m => isNone d && !blOf m
def wishB (nms : List Str) (lts : List (Option Str)) : Th → Bool
 | .w n l k m1 m2 m3 => (xc n 2 8 && !inW (strD n) nms) && ((isNone l || (xc l 1 1 && !decide (some (strD l) ∈ lts))) && ((isBl m1 && isBl m2 && isBl m3) && kindB k m1))
 | _ => false
def oftenB (d : D) : Bool := match d with
 | .s (.str z) => inW z ["one", "maybe", "some", "any"]
 | _ => false
def vbj (nms : List Str) : Th → Bool
 | .p n k o => (xc n 2 8 && !inW (strD n) nms) && (isKv k && oftenB o)
 | _ => false
def zaf (nms : List Str) : Th → Bool
 | .d (.tup [.s (.str a), .s (.str b)]) => inW a nms && (inW b nms && !(a == b))
 | _ => false
section
variable {A : Ads} {Q : Rv → En → Prop} {QF : Fl → En → Prop} {E : Exn → En → Prop}
theorem qaz {d : D} {a b : Int} (hd : OV d) (h : Q (rvB (xc d a b)) [.dat d, .dat (zi a), .dat (zi b)]) : wp (wb A) Q E [.dat d, .dat (zi a), .dat (zi b)] := by
 rcases hd with (rfl | ⟨i, rfl⟩ | ⟨b, rfl⟩ | ⟨z, rfl, hz, hl⟩) | ⟨l, rfl⟩
 ·unfold wb zg
  walk_at "w"
  exact h
 ·unfold wb zg
  walk_at "w"
  exact h
 ·unfold wb zg
  walk_at "w"
  exact h
 ·exact letters_ok hz hl h
 ·unfold wb zg
  walk_at "w"
  exact h
theorem kind_isi {k : Kv} (hk : KvOk k) : isiD A.K A.cs [k.D A, .s (.ref A.c_Kind)] = some (rvB (isKv k)) := by
 cases k with
 | kd k => exact kd_isi
 | vd d =>
  rcases hk with (rfl | ⟨i, rfl⟩ | ⟨b, rfl⟩ | ⟨z, rfl, hz, hl⟩) | ⟨l, rfl⟩
  ·exact xj
  ·exact vx
  ·exact vr
  ·exact kx
  ·exact vp
end
section
variable {A : Ads} {Q : Rv → En → Prop} {QF : Fl → En → Prop} {E : Exn → En → Prop}
theorem zbk {d n : D} {names : List Str} (hd : ∀ R : Rv → Prop, R (.dat n) → wpO (fldD (yf A) "name" d) R) (hn : OV n) (h : Q (rvB (xc n 2 8 && !inW (strD n) names)) [.dat d, .dat (.lst (names.map zs))]) : wp (kr A) Q E [.dat d, .dat (.lst (names.map zs))] := by
 unfold kr qa7
 walk_at "w"
 refine hd _ ?_
 walk_at "w"
 refine ⟨⟨by simp, trivial⟩, qaz hn ?_⟩
 walk_at "w"
 cases hb : xc n 2 8 with
 | false =>
  rw [hb] at h
  walk_at "w"
  exact h
 | true =>
  rw [hb] at h
  obtain ⟨z, rfl⟩ : ∃ z, n = zs z := by
   unfold xc at hb
   split at hb
   ·exact ⟨_, rfl⟩
   ·cases hb
  walk_at "w"
  refine hd _ ?_
  walk_at "w"
  rw [notIn_lst]
  walk_at "w"
  exact h
theorem isi_ovf {m : D} (h1 : OVf m) : isiD A.K A.cs [m, .s (.ty "bool")] = some (rvB (isBl m)) := by
 rcases h1 with rfl | ⟨i, rfl⟩ | ⟨b, rfl⟩ | ⟨z, rfl, _⟩
 ·exact ke
 ·exact qk
 ·exact ji
 ·exact wj
theorem wbp {t : Th} {ah : List Wx} (ht : ThOk t) (hl : ah.length ≤ 1000) (h : Q (rvB (wishB (ah.map (·.name)) (ah.map (·.letter)) t)) [.dat (t.D A), .dat (wxD A ah)]) : wp (w0 A) Q E [.dat (t.D A), .dat (wxD A ah)] := by
 unfold w0 zbn
 cases t with
 | p n k o =>
  unfold Th.D at h ⊢
  walk_at "w"
  exact h
 | d v =>
  unfold Th.D at h ⊢
  rcases ht with rfl | ⟨z, rfl, _⟩ | ⟨l, rfl, _⟩ | ⟨l, rfl⟩
  ·walk_at "w"
   exact h
  ·walk_at "w"
   exact h
  ·walk_at "w"
   exact h
  ·walk_at "w"
   exact h
 | w n l k m1 m2 m3 =>
  obtain ⟨hn, hlt, hk, hm1, hm2, hm3⟩ := ht
  have h : Q (rvB ((xc n 2 8 && !inW (strD n) (ah.map (·.name))) && ((isNone l || (xc l 1 1 && !decide (some (strD l) ∈ ah.map (·.letter)))) && ((isBl m1 && isBl m2 && isBl m3) && kindB k m1)))) [.dat (jj A n l (k.D A) m1 m2 m3), .dat (wxD A ah)] := h
  show wp _ _ _ [.dat (jj A n l (k.D A) m1 m2 m3), .dat (wxD A ah)]
  rw [PL.wp_run]
  refine seq_or (fun r => (xc n 2 8 && !inW (strD n) (ah.map (·.name))) = true ∧ r = [.dat (jj A n l (k.D A) m1 m2 m3), .dat (wxD A ah), .no, .no]) ?_ fun r hr => ?_
  ·walk_at "w"
   rw [PL.ki ah (Wx.obj A) (fun p => zs p.name) (ja (by omega)) fun p m => ?_]
   ·walk_at "w"
    rw [show (ah.map fun p => zs p.name) = (ah.map (·.name)).map zs by rw [List.map_map]; rfl]
    refine ⟨⟨by decide, trivial⟩, zbk (n := n) (fun R h => ?_) hn ?_⟩
    ·walk_at "w"; exact h
    walk_at "w"
    cases hb : (xc n 2 8 && !inW (strD n) (ah.map (·.name))) with
    | false =>
     rw [hb] at h
     walk_at "w"
     exact h
    | true =>
     walk_at "w"
     first | exact ⟨rfl, rfl⟩ | exact ⟨trivial, trivial⟩ | trivial
   ·unfold Wx.obj
    walk_at "w"
    exact ⟨by decide, by walk_at "fin", by walk_at "fin"⟩
  obtain ⟨hb, rfl⟩ := hr
  rw [hb, Bool.true_and] at h
  refine seq_or (fun r => (isNone l || (xc l 1 1 && !decide (some (strD l) ∈ ah.map (·.letter)))) = true ∧ r = [.dat (jj A n l (k.D A) m1 m2 m3), .dat (wxD A ah), .no, .no]) ?_ fun r hr => ?_
  ·walk_at "w"
   cases hl0 : isNone l with
   | true =>
    walk_at "w"
    first | exact ⟨rfl, rfl⟩ | exact ⟨trivial, trivial⟩ | trivial
   | false =>
    rw [hl0, Bool.false_or] at h
    walk_at "w"
    refine ⟨⟨by decide, trivial⟩, qaz (.inl hlt) ?_⟩
    walk_at "w"
    cases hb2 : xc l 1 1 with
    | false =>
     rw [hb2] at h
     walk_at "w"
     exact h
    | true =>
     rw [hb2, Bool.true_and] at h
     obtain ⟨z, rfl⟩ : ∃ z, l = zs z := by
      unfold xc at hb2
      split at hb2
      ·exact ⟨_, rfl⟩
      ·cases hb2
     walk_at "w"
     rw [PL.ki ah (Wx.obj A) (fun p => ltD p.letter) (ja (by omega)) fun p m => ?_]
     ·walk_at "w"
      rw [show (ah.map fun p => ltD p.letter) = (ah.map (·.letter)).map ltD by rw [List.map_map]; rfl, in_lt]
      rw [show strD (zs z) = z from rfl] at h ⊢
      walk_at "w"
      by_cases hb3 : some z ∈ ah.map (·.letter)
      ·rw [decide_eq_true hb3] at h
       rw [if_pos hb3]
       exact h
      ·rw [if_neg hb3, decide_eq_false hb3]
       first | exact ⟨rfl, rfl⟩ | exact ⟨rfl, trivial⟩
     ·unfold Wx.obj
      walk_at "w"
      exact ⟨by decide, by walk_at "fin", by walk_at "fin"⟩
  obtain ⟨hb, rfl⟩ := hr
  rw [hb, Bool.true_and] at h
  refine seq_or (fun r => (isBl m1 && isBl m2 && isBl m3) = true ∧ r = [.dat (jj A n l (k.D A) m1 m2 m3), .dat (wxD A ah), .no, .no]) ?_ fun r hr => ?_
  ·walk_at "w"
   rw [show ([m1, m2, m3] : List D) = [m1, m2, m3].map id from (List.map_id _).symm, PL.ki [m1, m2, m3] id (fun m => zb (isBl m)) (ja (by decide : 3 ≤ 1000000)) fun m hm => ?_]
   ·walk_at "w"
    rw [show allD [D.lst [zb (isBl m1), zb (isBl m2), zb (isBl m3)]] = some (rvB (isBl m1 && isBl m2 && isBl m3)) by cases isBl m1 <;> cases isBl m2 <;> cases isBl m3 <;> rfl]
    walk_at "w"
    refine ⟨ja (by decide : 3 ≤ 1000000), ?_⟩
    cases hb2 : (isBl m1 && isBl m2 && isBl m3) with
    | false =>
     rw [hb2] at h
     walk_at "w"
     exact h
    | true =>
     walk_at "w"
     first | exact ⟨rfl, rfl⟩ | exact ⟨trivial, trivial⟩ | trivial
   ·have hm' : OVf m := by
     simp only [List.mem_cons, List.not_mem_nil, or_false] at hm
     rcases hm with rfl | rfl | rfl
     ·exact hm1
     ·exact hm2
     ·exact hm3
    walk_at "w"
    rw [show id m = m from rfl, isi_ovf hm']
    walk_at "w"
    exact ⟨by decide, by walk_at "fin", by walk_at "fin"⟩
  obtain ⟨hb, rfl⟩ := hr
  rw [hb, Bool.true_and] at h
  walk_at "w"
  rw [kind_isi hk]
  walk_at "w"
  cases k with
  | kd k => exact h
  | vd d =>
   have h : Q (rvB (isNone d && !blOf m1)) [.dat (jj A n l d m1 m2 m3), .dat (wxD A ah)] := h
   show (if false = true then _ else if isNone d = true then isB m1 fun b => Q (Rv.dat (D.s (V.bl !b))) [.dat (jj A n l d m1 m2 m3), .dat (wxD A ah)] else Q (Rv.dat (D.s (V.bl false))) [.dat (jj A n l d m1 m2 m3), .dat (wxD A ah)])
   rw [if_neg (by decide)]
   cases hd : isNone d with
   | false =>
    rw [hd] at h
    rw [if_neg (by decide)]
    exact h
   | true =>
    rw [hd] at h
    rw [if_pos rfl]
    obtain ⟨b, rfl⟩ : ∃ b, m1 = zb b := by
     rcases hm1 with rfl | ⟨i, rfl⟩ | ⟨b, rfl⟩ | ⟨z, rfl, _⟩
     ·simp [isBl] at hb
     ·simp [isBl] at hb
     ·exact ⟨b, rfl⟩
     ·simp [isBl] at hb
    walk_at "w"
    exact h
end
section
variable {A : Ads} {Q : Rv → En → Prop} {QF : Fl → En → Prop} {E : Exn → En → Prop}
theorem often_str {o : D} (ho : OVo o) : isiD A.K A.cs [o, .s (.ty "str")] = some (rvB (match o with | .s (.str _) => true | _ => false)) := by
 rcases ho with (rfl | ⟨i, rfl⟩ | ⟨b, rfl⟩ | ⟨z, rfl, _⟩) | ⟨l, rfl, _⟩
 ·exact PL.zf
 ·exact PL.zm
 ·exact PL.jk
 ·exact PL.jm
 ·exact PL.yh
theorem ybk {t : Th} {nms : List Str} (ht : ThOk t) (h : Q (rvB (vbj nms t)) [.dat (t.D A), .dat (.lst (nms.map zs))]) : wp (j7 A) Q E [.dat (t.D A), .dat (.lst (nms.map zs))] := by
 unfold j7 wa6
 cases t with
 | w n l k m1 m2 m3 =>
  unfold Th.D at h ⊢
  walk_at "w"
  exact h
 | d v =>
  unfold Th.D at h ⊢
  rcases ht with rfl | ⟨z, rfl, _⟩ | ⟨l, rfl, _⟩ | ⟨l, rfl⟩
  ·walk_at "w"
   exact h
  ·walk_at "w"
   exact h
  ·walk_at "w"
   exact h
  ·walk_at "w"
   exact h
 | p n k o =>
  obtain ⟨hn, hk, ho⟩ := ht
  have h : Q (rvB ((xc n 2 8 && !inW (strD n) nms) && (isKv k && oftenB o))) [.dat (jab A n (k.D A) o), .dat (.lst (nms.map zs))] := h
  show wp _ _ _ [.dat (jab A n (k.D A) o), .dat (.lst (nms.map zs))]
  walk_at "w"
  refine ⟨⟨by decide, trivial⟩, zbk (n := n) (fun R h => ?_) hn ?_⟩
  ·walk_at "w"; exact h
  walk_at "w"
  cases hb : (xc n 2 8 && !inW (strD n) nms) with
  | false =>
   rw [hb] at h
   walk_at "w"
   exact h
  | true =>
   rw [hb, Bool.true_and] at h
   walk_at "w"
   rw [kind_isi hk]
   walk_at "w"
   cases hk2 : isKv k with
   | false =>
    rw [hk2] at h
    walk_at "w"
    exact h
   | true =>
    rw [hk2, Bool.true_and] at h
    walk_at "w"
    rw [often_str ho]
    rcases ho with (rfl | ⟨i, rfl⟩ | ⟨b, rfl⟩ | ⟨z, rfl, hz, _⟩) | ⟨l, rfl, hl⟩
    ·walk_at "w"
     exact h
    ·walk_at "w"
     exact h
    ·walk_at "w"
     exact h
    ·walk_at "w"
     rw [show ([zs "one", zs "maybe", zs "some", zs "any"] : List D) = (["one", "maybe", "some", "any"] : List Str).map zs from rfl, in_tup]
     walk_at "w"
     exact h
    ·walk_at "w"
     exact h
end
def flB (d : D) (nms : List Str) : Bool := match d with
 | .s (.str z) => inW z nms
 | _ => false
theorem fl_no {v : V} {nms : List Str} (hf : zbl (.s v) = true) (hv : ∀ z : Str, eqV (.str z) v = false) (e : inD (.s v) (.lst (nms.map zs)) = (match yo (.s v) (nms.map zs) with | some b => some (rvB b) | none => none)) : inD (.s v) (.lst (nms.map zs)) = some (rvB false) := by
 rw [e]
 have h1 : (nms.map zs).all zbl = true := List.all_eq_true.mpr fun d m => by
  obtain ⟨o, _, rfl⟩ := List.mem_map.mp m
  rfl
 unfold yo
 rw [if_pos (by rw [h1, hf]; rfl)]
 dsimp only
 congr 2
 rw [List.map_map]
 show ((nms.map V.str).any fun y => eqV y v) = false
 rw [List.any_map, List.any_eq_false]
 intro z _
 show ¬ eqV (.str z) v = true
 rw [hv z]
 decide
theorem fl_in {d : D} {nms : List Str} (hd : OVf d) : inD d (.lst (nms.map zs)) = some (rvB (flB d nms)) := by
 rcases hd with rfl | ⟨i, rfl⟩ | ⟨b, rfl⟩ | ⟨z, rfl, _⟩
 ·exact fl_no rfl (fun _ => rfl) rfl
 ·exact fl_no rfl (fun _ => rfl) rfl
 ·exact fl_no rfl (fun _ => rfl) rfl
 ·exact in_lstS z nms
theorem fl_str {d : D} {nms : List Str} (h : flB d nms = true) : ∃ z, d = zs z ∧ z ∈ nms := by
 unfold flB at h
 split at h
 ·exact ⟨_, rfl, inW_iff.mp h⟩
 ·cases h
theorem pairB_2 (a b : D) (nms : List Str) : zaf nms (.d (.tup [a, b])) = (flB a nms && (flB b nms && !(strD a == strD b))) := by
 cases a with
 | s a =>
  cases b with
  | s b => cases a <;> cases b <;> simp [zaf, flB, strD]
  | _ => cases a <;> simp [zaf, flB]
 | _ => simp [zaf, flB]
theorem pairB_1 (a : D) (nms : List Str) : zaf nms (.d (.tup [a])) = false := by
 cases a with
 | s a => cases a <;> rfl
 | _ => rfl
theorem pairB_3 (a b c : D) (r : List D) (nms : List Str) : zaf nms (.d (.tup (a :: b :: c :: r))) = false := by
 cases a with
 | s a =>
  cases b with
  | s b => cases a <;> cases b <;> rfl
  | _ => cases a <;> rfl
 | _ => rfl
section
variable {A : Ads} {Q : Rv → En → Prop} {QF : Fl → En → Prop} {E : Exn → En → Prop}
theorem zaz {t : Th} {nms : List Str} (ht : ThOk t) (hnm : ∀ z ∈ nms, okS z) (h : Q (rvB (zaf nms t)) [.dat (t.D A), .dat (.lst (nms.map zs))]) : wp (w3 A) Q E [.dat (t.D A), .dat (.lst (nms.map zs))] := by
 ·unfold w3 xbn
  cases t with
  | w n l k m1 m2 m3 =>
   unfold Th.D at h ⊢
   walk_at "w"
   exact h
  | p n k o =>
   unfold Th.D at h ⊢
   walk_at "w"
   exact h
  | d v =>
   unfold Th.D at h ⊢
   rcases ht with rfl | ⟨z, rfl, _⟩ | ⟨l, rfl, hl, hf⟩ | ⟨l, rfl⟩
   ·walk_at "w"
    exact h
   ·walk_at "w"
    exact h
   ·match l, hf with
    | [], _ =>
     walk_at "w"
     rw [if_pos (by decide)]
     exact h
    | [a], _ =>
     rw [pairB_1] at h
     walk_at "w"
     rw [if_pos (by decide)]
     exact h
    | [a, b], hf =>
     have ha := hf a (by simp)
     have hb := hf b (by simp)
     rw [pairB_2] at h
     walk_at "w"
     rw [if_neg (by decide), fl_in ha]
     walk_at "w"
     cases q1 : flB a nms with
     | false =>
      rw [q1] at h
      walk_at "w"
      exact h
     | true =>
      rw [q1, Bool.true_and] at h
      walk_at "w"
      rw [fl_in hb]
      walk_at "w"
      cases q2 : flB b nms with
      | false =>
       rw [q2] at h
       walk_at "w"
       exact h
      | true =>
       rw [q2, Bool.true_and] at h
       obtain ⟨x, rfl, hx⟩ := fl_str q1
       obtain ⟨y, rfl, hy⟩ := fl_str q2
       walk_at "w"
       rw [neD_str (hnm x hx) (hnm y hy)]
       walk_at "w"
       exact h
    | a :: b :: c :: r, _ =>
     rw [pairB_3] at h
     walk_at "w"
     rw [if_pos (by rw [show (((r.length + 1 + 1 + 1 : Nat) : Int) == 2) = false from beq_eq_false_iff_ne.mpr (by omega)]; rfl)]
     exact h
   ·walk_at "w"
    exact h
end
inductive Pt where
 | t (ts : List Th)
 | n (d : D)
def Pt.D (A : Ads) : Pt → D
 | .t ts => .tup (ts.map (Th.D A))
 | .n d => d
def PtOk : Pt → Prop
 | .t ts => ts.length ≤ 20 ∧ ∀ t ∈ ts, ThOk t
 | .n d => d = .s .non ∨ (∃ i, d = zi i) ∨ (∃ z, d = zs z) ∨ ∃ l, d = .lst l
def tsOf : Pt → List Th
 | .t ts => ts
 | .n _ => []
def nmT : Th → Str
 | .w n _ _ _ _ _ => strD n
 | .p n _ _ => strD n
 | .d _ => ""
def ltT : Th → Option Str
 | .w _ l _ _ _ _ => (match l with | .s (.str z) => some z | _ => none)
 | _ => none
def prT : Th → Str × Str
 | .d (.tup [.s (.str a), .s (.str b)]) => (a, b)
 | _ => ("", "")
def thAt (ts : List Th) (i : Nat) : Th := ts.getD i (.d (.s .non))
def gW (ts : List Th) (i : Nat) : Bool := decide (i < 5) && wishB ((ts.take i).map nmT) ((ts.take i).map ltT) (thAt ts i)
def gP (nms : List Str) (ts : List Th) (i : Nat) : Bool := decide (i < 4) && vbj (nms ++ (ts.take i).map nmT) (thAt ts i)
def gN (nms : List Str) (ts : List Th) (i : Nat) : Bool := decide (i < 4) && (zaf nms (thAt ts i) && !decide (prT (thAt ts i) ∈ (ts.take i).map prT))
def gB (nms : List Str) (ts : List Th) (i : Nat) : Bool := gN nms ts i && !decide (((prT (thAt ts i)).2, (prT (thAt ts i)).1) ∈ (ts.take i).map prT)
def fstB (g : Nat → Bool) (n : Nat) : Option Nat := (List.range n).find? fun i => !g i
def yi (w : Str) (g : List Th → Nat → Bool) : Pt → Option (Str × Int)
 | .n _ => some (w, -1)
 | .t ts => (fstB (g ts) ts.length).map fun i : Nat => (w, (i : Int))
def nmsT (p : Pt) : List Str := (tsOf p).map nmT
def due (P0 P1 P2 P3 : Pt) : Option (Str × Int) := match yi "wishes" gW P0 with
 | some x => some x
 | none => match yi "places" (gP (nmsT P0)) P1 with
  | some x => some x
  | none => match yi "bars" (gB (nmsT P0)) P2 with
   | some x => some x
   | none => yi "needs" (gN (nmsT P0)) P3
theorem jx {d : D} {a b : Int} (h : xc d a b = true) : ∃ z, d = zs z ∧ ((a ≤ (z.length : Int) ∧ (z.length : Int) ≤ b) ∧ z7 lettersS z = true) := by
 unfold xc at h
 split at h
 ·simp only [Bool.and_eq_true, decide_eq_true_eq] at h
  exact ⟨_, rfl, h⟩
 ·cases h
theorem jbq {d : D} (h : isBl d = true) : ∃ b, d = zb b := by
 unfold isBl at h
 split at h
 ·exact ⟨_, rfl⟩
 ·cases h
theorem kaa {ts : List Th} {i : Nat} {t : Th} (h : ts[i]? = some t) : thAt ts i = t := by
 unfold thAt
 rw [List.getD_eq_getElem?_getD, h]; rfl
section
variable {A : Ads}
theorem wish_good {t : Th} {nms : List Str} {lts : List (Option Str)} (ht : ThOk t) (h : wishB nms lts t = true) : ∃ w, okWx w ∧ (∀ A, t.D A = w.obj A) ∧ w.name = nmT t ∧ w.letter = ltT t := by
 cases t with
 | p n k o => cases h
 | d v => cases h
 | w n l k m1 m2 m3 =>
  obtain ⟨hn, hl, hk, hm1, hm2, hm3⟩ := ht
  simp only [wishB, Bool.and_eq_true, Bool.or_eq_true] at h
  obtain ⟨⟨h1, h2⟩, h3, ⟨⟨h4, h5⟩, h6⟩, h7⟩ := h
  obtain ⟨z, rfl, hz1, hz2⟩ := jx h1
  obtain ⟨b1, rfl⟩ := jbq h4
  obtain ⟨b2, rfl⟩ := jbq h5
  obtain ⟨b3, rfl⟩ := jbq h6
  obtain ⟨o, rfl, ho⟩ : ∃ o : Option Str, l = ltD o ∧ ∀ y, o = some y → okLt y := by
   rcases h3 with h3 | ⟨h3, _⟩
   ·refine ⟨none, ?_, fun y e => by cases e⟩
    rcases hl with rfl | ⟨i, rfl⟩ | ⟨b, rfl⟩ | ⟨y, rfl, _⟩
    ·rfl
    ·cases h3
    ·cases h3
    ·cases h3
   ·obtain ⟨y, rfl, hy1, hy2⟩ := jx h3
    exact ⟨some y, rfl, fun y' e => by cases e; exact ⟨by omega, hy2⟩⟩
  obtain ⟨kd, rfl', hkd, hkm⟩ : ∃ kd : Option Kd, (∀ A, k.D A = kdD A kd) ∧ (∀ x, kd = some x → x.ok) ∧ (b1 = true → kd.isSome = true) := by
   cases k with
   | kd x => exact ⟨some x, fun _ => rfl, (fun y e => by cases e; exact hk), fun _ => rfl⟩
   | vd d =>
    have h7 : (isNone d && !b1) = true := h7
    simp only [Bool.and_eq_true, Bool.not_eq_true'] at h7
    refine ⟨none, fun A => ?_, (fun y e => by cases e), (fun e => by rw [h7.2] at e; cases e)⟩
    rcases hk with (rfl | ⟨i, rfl⟩ | ⟨b, rfl⟩ | ⟨y, rfl, _⟩) | ⟨y, rfl⟩
    ·rfl
    ·cases h7.1
    ·cases h7.1
    ·cases h7.1
    ·cases h7.1
  refine ⟨⟨z, o, kd, b1, b2, b3⟩, ⟨⟨⟨by show 2 ≤ z.length; omega, by show z.length ≤ 8; omega⟩, hz2⟩, ho, hkm, hkd⟩, fun A => ?_, rfl, ?_⟩
  ·show jj A (zs z) (ltD o) (k.D A) (zb b1) (zb b2) (zb b3) = jj A (zs z) (ltD o) (kdD A kd) (zb b1) (zb b2) (zb b3)
   rw [rfl']
  ·cases o <;> rfl
theorem place_good {t : Th} {nms : List Str} (ht : ThOk t) (h : vbj nms t = true) : ∃ p, okPl p ∧ (∀ A, t.D A = p.obj A) ∧ p.name = nmT t := by
 cases t with
 | w n l k m1 m2 m3 => cases h
 | d v => cases h
 | p n k o =>
  obtain ⟨hn, hk, ho⟩ := ht
  simp only [vbj, Bool.and_eq_true] at h
  obtain ⟨⟨h1, h2⟩, h3, h4⟩ := h
  obtain ⟨z, rfl, hz1, hz2⟩ := jx h1
  obtain ⟨f, rfl⟩ : ∃ f : Of, o = zs f.s := by
   unfold oftenB at h4
   split at h4
   ·rename_i y
    have := inW_iff.mp h4
    simp only [List.mem_cons, List.not_mem_nil, or_false] at this
    rcases this with rfl | rfl | rfl | rfl
    ·exact ⟨.one, rfl⟩
    ·exact ⟨.maybe, rfl⟩
    ·exact ⟨.some_, rfl⟩
    ·exact ⟨.any_, rfl⟩
   ·cases h4
  cases k with
  | vd d => cases h3
  | kd k => exact ⟨⟨z, k, f⟩, ⟨⟨⟨by show 2 ≤ z.length; omega, by show z.length ≤ 8; omega⟩, hz2⟩, hk⟩, fun A => rfl, rfl⟩
theorem yax {t : Th} {nms : List Str} (h : zaf nms t = true) : ∃ p : Str × Str, (∀ A, t.D A = prD p) ∧ prT t = p ∧ p.1 ∈ nms ∧ p.2 ∈ nms ∧ p.1 ≠ p.2 := by
 unfold zaf at h
 split at h
 ·rename_i a b
  simp only [Bool.and_eq_true, Bool.not_eq_true', beq_eq_false_iff_ne] at h
  exact ⟨(a, b), fun _ => rfl, rfl, inW_iff.mp h.1, inW_iff.mp h.2.1, h.2.2⟩
 ·cases h
theorem zbf {α : Type} {ts : List Th} {R : Th → α → Prop} {i : Nat} (hi : i ≤ ts.length) (h : ∀ j, j < i → ∀ t, ts[j]? = some t → ∃ x, R t x) : ∃ xs : List α, xs.length = i ∧ ∀ j t, j < i → ts[j]? = some t → ∃ x, xs[j]? = some x ∧ R t x := by
 induction i with
 | zero => exact ⟨[], rfl, fun j t hj => absurd hj (Nat.not_lt_zero j)⟩
 | succ i ih =>
  obtain ⟨xs, h1, h2⟩ := ih (by omega) fun j hj => h j (by omega)
  obtain ⟨x, hx⟩ := h i (Nat.lt_succ_self i) _ (List.getElem?_eq_getElem (show i < ts.length by omega))
  refine ⟨xs ++ [x], by rw [List.length_append, h1]; rfl, fun j t hj ht => ?_⟩
  rcases Nat.lt_or_ge j i with q | q
  ·obtain ⟨y, hy, hr⟩ := h2 j t q ht
   exact ⟨y, by rw [List.getElem?_append_left (by omega)]; exact hy, hr⟩
  ·have : j = i := by omega
   subst this
   rw [List.getElem?_eq_getElem (show j < ts.length by omega)] at ht
   cases ht
   exact ⟨x, by rw [List.getElem?_append_right (by omega), h1, Nat.sub_self]; rfl, hx⟩
theorem qab {α β : Type} {ts : List Th} {R : Th → α → Prop} {i : Nat} {xs : List α} {f : Th → β} {g : α → β} (hi : i ≤ ts.length) (h1 : xs.length = i) (h2 : ∀ j t, j < i → ts[j]? = some t → ∃ x, xs[j]? = some x ∧ R t x) (hfg : ∀ t x, R t x → f t = g x) : (ts.take i).map f = xs.map g := by
 apply List.ext_getElem?
 intro j
 rw [List.getElem?_map, List.getElem?_map]
 rcases Nat.lt_or_ge j i with q | q
 ·obtain ⟨x, hx, hr⟩ := h2 j _ q (List.getElem?_eq_getElem (show j < ts.length by omega))
  rw [List.getElem?_take_of_lt q, List.getElem?_eq_getElem (show j < ts.length by omega), hx, Option.map_some, Option.map_some, hfg _ _ hr]
 ·rw [List.getElem?_eq_none (by rw [List.length_take]; omega), List.getElem?_eq_none (by omega)]; rfl
theorem qbp {α : Type} {ts : List Th} {R : Th → α → Prop} {i : Nat} {xs : List α} (hi : i ≤ ts.length) (h1 : xs.length = i) (h2 : ∀ j t, j < i → ts[j]? = some t → ∃ x, xs[j]? = some x ∧ R t x) : ∀ x ∈ xs, ∃ t, R t x := fun x hx => by
 obtain ⟨j, hj⟩ := List.getElem?_of_mem hx
 have hl := (List.getElem?_eq_some_iff.mp hj).1
 obtain ⟨y, hy, hr⟩ := h2 j _ (by omega) (List.getElem?_eq_getElem (show j < ts.length by omega))
 rw [hj] at hy
 cases hy
 exact ⟨_, hr⟩
theorem za4 {ts : List Th} {i : Nat} (hi : i ≤ ts.length) (ht : ∀ t ∈ ts, ThOk t) (h : ∀ j, j < i → gW ts j = true) : ∃ ws : List Wx, ws.length = i ∧ (∀ w ∈ ws, okWx w) ∧ (∀ A, (ts.take i).map (Th.D A) = ws.map (Wx.obj A)) ∧ (ts.take i).map nmT = ws.map (·.name) ∧ (ts.take i).map ltT = ws.map (·.letter) := by
 obtain ⟨ws, h1, h2⟩ := zbf (R := fun t w => okWx w ∧ (∀ A, t.D A = w.obj A) ∧ w.name = nmT t ∧ w.letter = ltT t) hi fun j hj t hjt => by
  have := h j hj
  unfold gW at this
  rw [kaa hjt, Bool.and_eq_true] at this
  exact wish_good (ht t (List.mem_of_getElem? hjt)) this.2
 exact ⟨ws, h1, fun w hw => by obtain ⟨t, hr⟩ := qbp hi h1 h2 w hw; exact hr.1, fun A => qab hi h1 h2 fun t x r => r.2.1 A, qab hi h1 h2 fun t x r => r.2.2.1.symm, qab hi h1 h2 fun t x r => r.2.2.2.symm⟩
theorem places_pre {nms : List Str} {ts : List Th} {i : Nat} (hi : i ≤ ts.length) (ht : ∀ t ∈ ts, ThOk t) (h : ∀ j, j < i → gP nms ts j = true) : ∃ ws : List Pl, ws.length = i ∧ (∀ w ∈ ws, okPl w) ∧ (∀ A, (ts.take i).map (Th.D A) = ws.map (Pl.obj A)) ∧ (ts.take i).map nmT = ws.map (·.name) := by
 obtain ⟨ws, h1, h2⟩ := zbf (R := fun t w => okPl w ∧ (∀ A, t.D A = w.obj A) ∧ w.name = nmT t) hi fun j hj t hjt => by
  have := h j hj
  unfold gP at this
  rw [kaa hjt, Bool.and_eq_true] at this
  exact place_good (ht t (List.mem_of_getElem? hjt)) this.2
 exact ⟨ws, h1, fun w hw => by obtain ⟨t, hr⟩ := qbp hi h1 h2 w hw; exact hr.1, fun A => qab hi h1 h2 fun t x r => r.2.1 A, qab hi h1 h2 fun t x r => r.2.2.symm⟩
theorem ybj {nms : List Str} {ts : List Th} {i : Nat} (hi : i ≤ ts.length) (hnm : ∀ z ∈ nms, okS z) (h : ∀ j, j < i → gN nms ts j = true) : ∃ ws : List (Str × Str), ws.length = i ∧ (∀ q ∈ ws, okS q.1 ∧ okS q.2) ∧ (∀ A, (ts.take i).map (Th.D A) = ws.map prD) ∧ (ts.take i).map prT = ws := by
 obtain ⟨ws, h1, h2⟩ := zbf (R := fun t p => (∀ A, t.D A = prD p) ∧ prT t = p ∧ p.1 ∈ nms ∧ p.2 ∈ nms ∧ p.1 ≠ p.2) hi fun j hj t hjt => by
  have := h j hj
  unfold gN at this
  rw [kaa hjt, Bool.and_eq_true, Bool.and_eq_true] at this
  exact yax this.2.1
 exact ⟨ws, h1, fun w hw => by obtain ⟨t, hr⟩ := qbp hi h1 h2 w hw; exact ⟨hnm _ hr.2.2.1, hnm _ hr.2.2.2.1⟩, fun A => qab hi h1 h2 fun t x r => r.1 A, by rw [qab (g := id) hi h1 h2 fun t x r => r.2.1, List.map_id]⟩
end
theorem map_get {α : Type} {f : α → D} {l : List α} {i : Nat} {d : D} (h : (l.map f)[i]? = some d) : ∃ y, l[i]? = some y ∧ d = f y := by
 rw [List.getElem?_map] at h
 obtain ⟨y, hy, e⟩ := Option.map_eq_some_iff.mp h
 exact ⟨y, hy, e.symm⟩
section
variable {A : Ads} {Q : Rv → En → Prop} {QF : Fl → En → Prop} {E : Exn → En → Prop}
theorem kbc {G : D → List D → Option Bool} {p : Str} {most : Nat} {ts : List Th} {g : Nat → Bool} (hm : ∀ i, g i = true → i < most)
  (hg : ∀ (i : Nat) (t : Th), ts[i]? = some t → i < most → (∀ j, j < i → g j = true) → G (t.D A) ((ts.take i).map (Th.D A)) = some (g i)) : npX (exNT A) A.K A.cs G [zs p, .tup (ts.map (Th.D A)), zi (most : Nat)] = some ((fstB g ts.length).map fun n : Nat => exNT A p n) := by
 have := npGoX_of (G := G) (most := ((most : Nat) : Int)) (ds := ts.map (Th.D A)) (g := g) (fun i d hd hall => ⟨fun e => by
  cases q : g i with
  | false => rfl
  | true =>
   have := hm i q
   omega, fun e => by
  obtain ⟨t, ht, rfl⟩ := map_get hd
  rw [← List.map_take]
  refine hg i t ht ?_ hall
  rcases Nat.lt_or_ge i most with q | q
  ·exact q
  ·have := hm most (hall most (by omega))
   omega⟩) (ts.map (Th.D A)).length (Nat.le_refl _)
 unfold npX
 dsimp only
 rw [this, List.length_map]
 show _ = some ((fstB g ts.length).map _)
 unfold fstB
 cases (List.range ts.length).find? fun i => !g i <;> rfl
theorem vbc {G : D → List D → Option Bool} {p : Str} {most : Int} {d : D} (hd : d = .s .non ∨ (∃ i, d = zi i) ∨ (∃ z, d = zs z) ∨ ∃ l, d = .lst l) : npX (exNT A) A.K A.cs G [zs p, d, .s (.int most)] = some (some (exNT A p (-1))) := by
 have hi : isiD A.K A.cs [d, .s (.ty "tuple")] = some (rvB false) := by
  rcases hd with rfl | ⟨i, rfl⟩ | ⟨z, rfl⟩ | ⟨l, rfl⟩
  ·exact PL.zd
  ·exact PL.qi
  ·exact PL.wh
  ·exact PL.qh
 unfold npX
 rcases hd with rfl | ⟨i, rfl⟩ | ⟨z, rfl⟩ | ⟨l, rfl⟩ <;> · dsimp only; rw [hi]
abbrev exO (A : Ads) (o : Option (Str × Int)) : Option Exn := o.map fun x => exNT A x.1 x.2
theorem np_map {A : Ads} {p : Str} (o : Option Nat) : o.map (fun n : Nat => exNT A p n) = exO A (o.map fun i : Nat => (p, (i : Int))) := by cases o <;> rfl
theorem W_np {P : Pt} (h : PtOk P) : zj A [zs "wishes", P.D A, zi 5] = some (exO A (yi "wishes" gW P)) := by
 cases P with
 | n d => exact vbc h
 | t ts =>
  show zj A [zs "wishes", .tup (ts.map (Th.D A)), zi ((5 : Nat) : Int)] = some (exO A ((fstB (gW ts) ts.length).map fun i : Nat => ("wishes", (i : Int))))
  rw [← np_map]
  unfold zj
  refine kbc (fun i hi => by
   unfold gW at hi
   rw [Bool.and_eq_true, decide_eq_true_eq] at hi
   exact hi.1) fun i t ht hlt hall => ?_
  have hi := (List.getElem?_eq_some_iff.mp ht).1
  obtain ⟨ws, h1, h2, h3, h4, h5⟩ := za4 (Nat.le_of_lt hi) h.2 hall
  have h6 := h.1
  unfold gW
  rw [h3 A, kaa ht, h4, h5, decide_eq_true hlt, Bool.true_and]
  exact wav (wbp (h.2 t (List.mem_of_getElem? ht)) (by omega) rfl)
theorem nms_eq {ts : List Th} {ws : List Wx} (h : ts.map nmT = ws.map (·.name)) : (ws.map fun p => zs p.name) = (ts.map nmT).map zs := by rw [h, List.map_map]; rfl
theorem P_np {P : Pt} {nms : List Str} (hnl : nms.length ≤ 100) (h : PtOk P) : qd A (.lst (nms.map zs)) [zs "places", P.D A, zi 4] = some (exO A (yi "places" (gP nms) P)) := by
 cases P with
 | n d => exact vbc h
 | t ts =>
  show qd A _ [zs "places", .tup (ts.map (Th.D A)), zi ((4 : Nat) : Int)] = some (exO A ((fstB (gP nms ts) ts.length).map fun i : Nat => ("places", (i : Int))))
  rw [← np_map]
  unfold qd
  refine kbc (fun i hi => by
   unfold gP at hi
   rw [Bool.and_eq_true, decide_eq_true_eq] at hi
   exact hi.1) fun i t ht hlt hall => ?_
  have hi := (List.getElem?_eq_some_iff.mp ht).1
  obtain ⟨ps, h1, h2, h3, h4⟩ := places_pre (Nat.le_of_lt hi) h.2 hall
  have h6 := h.1
  unfold gP
  rw [h3 A, kaa ht, h4, decide_eq_true hlt, Bool.true_and]
  refine wav ?_
  unfold zq
  have ht2 := h.2 t (List.mem_of_getElem? ht)
  clear ht h4
  generalize hTD : t.D A = TD
  walk_at "w"
  rw [PL.ki ps (Pl.obj A) (fun p => zs p.name) (ja (by omega)) fun p m => ?_]
  ·walk_at "w"
   have e : nms.map zs ++ ps.map (fun p => zs p.name) = (nms ++ ps.map (·.name)).map zs := by rw [List.map_append, List.map_map]; rfl
   rw [e, ← hTD]
   refine ⟨by rw [List.length_map, List.length_map]; exact ja (by omega), by simp, ybk ht2 ?_⟩
   walk_at "w"
  ·unfold Pl.obj
   walk_at "w"
   exact ⟨by decide, by walk_at "fin", by walk_at "fin"⟩
theorem N_np {P : Pt} {nms : List Str} (hnm : ∀ z ∈ nms, okS z) (h : PtOk P) : yc A (.lst (nms.map zs)) [zs "needs", P.D A, zi 4] = some (exO A (yi "needs" (gN nms) P)) := by
 cases P with
 | n d => exact vbc h
 | t ts =>
  show yc A _ [zs "needs", .tup (ts.map (Th.D A)), zi ((4 : Nat) : Int)] = some (exO A ((fstB (gN nms ts) ts.length).map fun i : Nat => ("needs", (i : Int))))
  rw [← np_map]
  unfold yc
  refine kbc (fun i hi => by
   unfold gN at hi
   rw [Bool.and_eq_true, decide_eq_true_eq] at hi
   exact hi.1) fun i t ht hlt hall => ?_
  have hi := (List.getElem?_eq_some_iff.mp ht).1
  obtain ⟨ps, h1, h2, h3, h4⟩ := ybj (Nat.le_of_lt hi) hnm hall
  unfold gN
  rw [h3 A, kaa ht, h4, decide_eq_true hlt, Bool.true_and]
  refine wav ?_
  unfold qq
  have ht2 := h.2 t (List.mem_of_getElem? ht)
  clear ht h4
  generalize hTD : t.D A = TD
  walk_at "w"
  rw [← hTD]
  refine ⟨⟨by decide, trivial⟩, zaz ht2 hnm ?_⟩
  walk_at "w"
  cases hb : zaf nms t with
  | false =>
   walk_at "w"
   try rfl
  | true =>
   obtain ⟨p, e1, e2, m1, m2, m3⟩ := yax hb
   rw [e1 A, e2]
   walk_at "w"
   rw [show xh (prD p) (.tup (ps.map prD)) = some (rvB (!decide (p ∈ ps))) by unfold xh; rw [(in_prs ⟨hnm _ m1, hnm _ m2⟩ h2).1]]
   walk_at "w"
   try rfl
theorem B_np {P : Pt} {nms : List Str} (hnm : ∀ z ∈ nms, okS z) (h : PtOk P) : wc A (.lst (nms.map zs)) [zs "bars", P.D A, zi 4] = some (exO A (yi "bars" (gB nms) P)) := by
 cases P with
 | n d => exact vbc h
 | t ts =>
  show wc A _ [zs "bars", .tup (ts.map (Th.D A)), zi ((4 : Nat) : Int)] = some (exO A ((fstB (gB nms ts) ts.length).map fun i : Nat => ("bars", (i : Int))))
  rw [← np_map]
  unfold wc
  refine kbc (fun i hi => by
   unfold gB gN at hi
   rw [Bool.and_eq_true, Bool.and_eq_true, decide_eq_true_eq] at hi
   exact hi.1.1) fun i t ht hlt hall => ?_
  have hi := (List.getElem?_eq_some_iff.mp ht).1
  obtain ⟨ps, h1, h2, h3, h4⟩ := ybj (Nat.le_of_lt hi) hnm fun j hj => by
   have := hall j hj
   unfold gB at this
   rw [Bool.and_eq_true] at this
   exact this.1
  unfold gB gN
  rw [h3 A, kaa ht, h4, decide_eq_true hlt, Bool.true_and]
  refine wav ?_
  unfold jq
  have ht2 := h.2 t (List.mem_of_getElem? ht)
  clear ht h4
  generalize hTD : t.D A = TD
  walk_at "w"
  rw [← hTD]
  refine ⟨⟨by decide, trivial⟩, zaz ht2 hnm ?_⟩
  walk_at "w"
  cases hb : zaf nms t with
  | false =>
   walk_at "w"
   try rfl
  | true =>
   obtain ⟨p, e1, e2, m1, m2, m3⟩ := yax hb
   rw [e1 A, e2]
   walk_at "w"
   rw [show xh (prD p) (.tup (ps.map prD)) = some (rvB (!decide (p ∈ ps))) by unfold xh; rw [(in_prs ⟨hnm _ m1, hnm _ m2⟩ h2).1]]
   walk_at "w"
   by_cases hp : p ∈ ps
   ·rw [decide_eq_true hp]
    walk_at "w"
    try rfl
   ·rw [decide_eq_false hp]
    walk_at "w"
    have e : prD p = .tup [zs p.1, zs p.2] := rfl
    rw [e]
    walk_at "w"
    rw [show ([zs p.1, zs p.2] : List D).reverse = [zs p.2, zs p.1] from rfl, show xh (.tup [zs p.2, zs p.1]) (.tup (ps.map prD)) = some (rvB (!decide ((p.2, p.1) ∈ ps))) by
     unfold xh
     rw [show inXB (D.tup [zs p.2, zs p.1]) (.tup (ps.map prD)) = _ from (in_prs (p := (p.2, p.1)) ⟨hnm _ m2, hnm _ m1⟩ h2).1]]
    walk_at "w"
    try rfl
end
theorem fstB_none {g : Nat → Bool} {n : Nat} (h : fstB g n = none) : ∀ j, j < n → g j = true := fun j hj => by
 have := List.find?_eq_none.mp h j (List.mem_range.mpr hj)
 simpa using this
theorem duePt_none {w : Str} {g : List Th → Nat → Bool} {P : Pt} (h : yi w g P = none) : ∃ ts, P = .t ts ∧ ∀ j, j < ts.length → g ts j = true := by
 cases P with
 | n d => cases h
 | t ts => exact ⟨ts, rfl, fstB_none (Option.map_eq_none_iff.mp h)⟩
theorem ka4 {ts : List Th} (ht : ∀ t ∈ ts, ThOk t) (h : ∀ j, j < ts.length → gW ts j = true) : ∃ ws : List Wx, ws.length = ts.length ∧ (∀ w ∈ ws, okWx w) ∧ (∀ A, ts.map (Th.D A) = ws.map (Wx.obj A)) ∧ ts.map nmT = ws.map (·.name) := by
 obtain ⟨ws, h1, h2, h3, h4, _⟩ := za4 (Nat.le_refl _) ht h
 rw [List.take_length] at h3 h4
 exact ⟨ws, h1, h2, h3, h4⟩
theorem nms_ok {ts : List Th} (ht : ∀ t ∈ ts, ThOk t) (h : ∀ j, j < ts.length → gW ts j = true) : ∀ z ∈ ts.map nmT, okS z := fun z hz => by
 obtain ⟨ws, h1, h2, h3, h4⟩ := ka4 ht h
 rw [h4] at hz
 obtain ⟨w, hw, rfl⟩ := List.mem_map.mp hz
 exact ybp (h2 w hw).n.2
section
variable {A : Ads} {Q : Rv → En → Prop} {QF : Fl → En → Prop} {E : Exn → En → Prop}
abbrev tabP (A : Ads) (P0 P1 P2 P3 : Pt) : M := .ob A.c_Table [("wishes", P0.D A), ("places", P1.D A), ("bars", P2.D A), ("needs", P3.D A)]
theorem tinit_ok {P0 P1 P2 P3 : Pt} (h0 : PtOk P0) (h1 : PtOk P1) (h2 : PtOk P2) (h3 : PtOk P3) {x0 x1 x2 x3 : D} (u0 : un1 x0 = P0.D A) (u1 : un1 x1 = P1.D A) (u2 : un1 x2 = P2.D A) (u3 : un1 x3 = P3.D A) (hQ : due P0 P1 P2 P3 = none → ∀ r, Q (.dat (.s .non)) (.own (.ob A.c_Table [("wishes", x0), ("places", x1), ("bars", x2), ("needs", x3)]) :: r))
  (hE : ∀ w n, due P0 P1 P2 P3 = some (w, n) → ∀ r, E (exNT A w n) r) : wp (yk A) Q E [.own (.ob A.c_Table []), .dat x0, .dat x1, .dat x2, .dat x3] := by
 unfold yk jaq
 walk_at "w"
 rw [u0, W_np h0]
 unfold due at hQ hE
 cases q0 : yi "wishes" gW P0 with
 | some x =>
  obtain ⟨w, n⟩ := x
  rw [q0] at hE
  walk_at "w"
  exact ⟨by decide, hE w n rfl _⟩
 | none =>
  rw [q0] at hQ hE
  dsimp only at hQ hE
  obtain ⟨ts, rfl, hg⟩ := duePt_none q0
  obtain ⟨ws, k1, k2, k3, k4⟩ := ka4 h0.2 hg
  have hnm := nms_ok h0.2 hg
  have hlen := h0.1
  have eD : (Pt.t ts).D A = wxD A ws := by show D.tup (ts.map (Th.D A)) = _; rw [k3 A]
  rw [eD]
  walk_at "w"
  rw [PL.ki ws (Wx.obj A) (fun p => zs p.name) (ja (by omega)) fun p m => ?_]
  ·rw [nms_eq k4]
   walk_at "w"
   refine ⟨by decide, ?_⟩
   rw [u1, P_np (by rw [List.length_map]; omega) h1]
   rw [show nmsT (.t ts) = ts.map nmT from rfl] at hQ hE
   cases q1 : yi "places" (gP (ts.map nmT)) P1 with
   | some x =>
    obtain ⟨w, n⟩ := x
    rw [q1] at hE
    walk_at "w"
    exact ⟨by decide, hE w n rfl _⟩
   | none =>
    rw [q1] at hQ hE
    walk_at "w"
    rw [u2, B_np hnm h2]
    cases q2 : yi "bars" (gB (ts.map nmT)) P2 with
    | some x =>
     obtain ⟨w, n⟩ := x
     rw [q2] at hE
     walk_at "w"
     exact ⟨by decide, hE w n rfl _⟩
    | none =>
     rw [q2] at hQ hE
     walk_at "w"
     rw [u3, N_np hnm h3]
     cases q3 : yi "needs" (gN (ts.map nmT)) P3 with
     | some x =>
      obtain ⟨w, n⟩ := x
      rw [q3] at hE
      walk_at "w"
      exact ⟨by decide, hE w n rfl _⟩
     | none =>
      rw [q3] at hQ
      walk_at "w"
      exact ⟨⟨trivial, by decide⟩, ⟨trivial, by decide⟩, ⟨trivial, by decide⟩, ⟨trivial, by decide⟩, by decide, hQ rfl _⟩
  ·unfold Wx.obj
   walk_at "w"
   exact ⟨by decide, by walk_at "fin", by walk_at "fin"⟩
def dueD : Option (Str × Int) → D
 | none => .s .non
 | some x => .tup [zs x.1, zi x.2]
theorem un_pt {P : Pt} (h : PtOk P) : un1 (P.D A) = P.D A := by
 cases P with
 | t ts => rfl
 | n d =>
  have h : PtOk (.n d) := h
  unfold PtOk at h
  rcases h with rfl | ⟨i, rfl⟩ | ⟨z, rfl⟩ | ⟨l, rfl⟩ <;> rfl
theorem at_ok {P0 P1 P2 P3 : Pt} (h0 : PtOk P0) (h1 : PtOk P1) (h2 : PtOk P2) (h3 : PtOk P3) {c : Cell} (hc : c = .dat (.lst [P0.D A, P1.D A, P2.D A, P3.D A]) ∨ c = .own (.lst [P0.D A, P1.D A, P2.D A, P3.D A])) (h : Q (.dat (dueD (due P0 P1 P2 P3))) [c]) : wp (za2 A) Q E [c] := by
 unfold za2 b_l_at
 rcases hc with rfl | rfl
 all_goals
  walk_at "w"
  refine ⟨by decide, ?_⟩
  rw [show atI [P0.D A, P1.D A, P2.D A, P3.D A] 3 = some (P3.D A) from rfl]
  walk_at "w"
  refine ⟨trivial, tinit_ok h0 h1 h2 h3 (un_pt h0) (un_pt h1) (un_pt h2) (un_pt h3) (fun hd r => ?_) fun w n hd r => ?_⟩
  ·rw [hd] at h
   walk_at "w"
   first | exact h | exact ⟨by decide, h⟩
  ·rw [hd] at h
   walk_at "w"
   simp only [Option.isSome_some, Option.getD_some]
   walk_at "w"
   first | exact h | exact ⟨by decide, h⟩ | exact ⟨⟨by decide, by decide⟩, h⟩ | exact ⟨by decide, by decide, h⟩ | exact ⟨by decide, ja (by decide), h⟩ | exact ⟨⟨by decide, by decide⟩, ja (by decide), h⟩ | exact ⟨⟨by decide, by decide⟩, ja (by decide), by decide, h⟩
end
structure Dw where
 d : Int
 c : Int
 n : Int
 hd : 0 ≤ d
abbrev dw (s : Dw) : Cell := .own (.lst [zi s.d, zi s.c, zi s.n])
section
variable {A : Ads} {Q : Rv → En → Prop} {E : Exn → En → Prop}
theorem mixed_ok {c k : Int} (h : Q (rvI (mixedZ c k)) [.dat (zi c), .dat (zi k)]) : wp (j0 A) Q E [.dat (zi c), .dat (zi k)] := by
 unfold j0 jbn
 walk_at "w"
 have h1 : (0 : Int) ≤ (c + 7919 * k + 11) * 48271 % 2147483647 := Int.emod_nonneg _ (by decide)
 have h2 : (c + 7919 * k + 11) * 48271 % 2147483647 < 2147483647 := Int.emod_lt_of_pos _ (by decide)
 exact ⟨jbd (by decide), mulIB_r (by decide), by decide, by decide, jbd (by omega), jbd (by decide), by decide, h⟩
theorem kay {n : Dw} {size : Int} (h0 : 0 < size ∧ size ≤ 1000000) (h : ∀ r (m : Dw), 0 ≤ r → r < size → Q (rvI r) [dw m, .dat (zi size)]) : wp (zp A) Q E [dw n, .dat (zi size)] := by
 obtain ⟨d, c, n, hd⟩ := n
 unfold zp b_l_next
 obtain ⟨h0, h9⟩ := h0
 walk_at "w"
 by_cases q : 0 < d
 ·rw [if_pos q]
  exact ⟨h0, by decide, ⟨h0, by omega⟩, ⟨by decide, by decide, by decide⟩, by decide, h _ ⟨_, c, n, Int.ediv_nonneg hd (by omega)⟩ (Int.emod_nonneg _ (by omega)) (Int.emod_lt_of_pos _ h0)⟩
 ·rw [if_neg q]
  refine ⟨⟨by decide, trivial⟩, mixed_ok ?_⟩
  walk_at "w"
  exact ⟨by decide, h0, by decide, h _ ⟨d, c, _, hd⟩ (Int.emod_nonneg _ (by omega)) (Int.emod_lt_of_pos _ h0)⟩
theorem draw_ok {ns : List Int} {k c : Nat} (h : ∀ m : Dw, Q (.new (.lst [zi m.d, zi m.c, zi m.n])) [.dat (.ro (ns.map zi)), .dat (zi k), .dat (zi c)]) : wp (waw A) Q E [.dat (.ro (ns.map zi)), .dat (zi k), .dat (zi c)] := by
 unfold waw b_l_draw
 rw [PL.wp_run]
 refine jd (Q1 := fun r => r = [.dat (.ro (ns.map zi)), .dat (zi k), .dat (zi c), .dat (zi 0), .no]) (by walk_at "w"; simp) fun r hr => ?_
 subst hr
 refine jd (Q1 := fun r => ∃ x : Int, r = [.dat (.ro (ns.map zi)), .dat (zi k), .dat (zi c), .dat (zi x), .no]) ?_ fun r hr => ?_
 ·walk_at "w"
  rw [List.length_map]
  by_cases q : k < ns.length
  ·rw [if_pos (by omega), qa2 (by omega)]
   have e : (ns.map zi)[((k : Nat) : Int).toNat]? = some (zi ns[k]) := by
    rw [Int.toNat_natCast, List.getElem?_map, List.getElem?_eq_getElem q]; rfl
   rw [e]
   walk_at "w"
   exact ⟨by decide, trivial, ns[k], rfl⟩
  ·rw [if_neg (by omega)]
   exact ⟨trivial, 0, rfl⟩
 obtain ⟨x, rfl⟩ := hr
 refine jd (Q1 := fun r => r = [.dat (.ro (ns.map zi)), .dat (zi k), .dat (zi c), .dat (zi x), .dat (zi 0)]) (by walk_at "w"; simp) fun r hr => ?_
 subst hr
 refine jd (Q1 := fun r => ∃ d : Int, 0 ≤ d ∧ r = [.dat (.ro (ns.map zi)), .dat (zi k), .dat (zi c), .dat (zi x), .dat (zi d)]) ?_ fun r hr => ?_
 ·walk_at "w"
  refine ⟨by decide, ?_⟩
  split
  ·exact ⟨by decide, by decide, trivial, _, Int.ediv_nonneg (by split <;> omega) (by decide), rfl⟩
  ·exact ⟨trivial, 0, by decide, rfl⟩
 obtain ⟨d, hd, rfl⟩ := hr
 walk_at "w"
 refine ⟨⟨by decide, trivial⟩, mixed_ok ?_⟩
 walk_at "w"
 exact ⟨by decide, h ⟨d, _, _, hd⟩⟩
end
section
variable {A : Ads} {Q : Rv → En → Prop} {QF : Fl → En → Prop} {E : Exn → En → Prop}
theorem pick_ok {n : Dw} {ds : List D} (h0 : 0 < ds.length) (h1 : ds.length ≤ 1000000) (h : ∀ d m, d ∈ ds → Q (.dat d) [dw m, .dat (.lst ds)]) : wp (yaw A) Q E [dw n, .dat (.lst ds)] := by
 unfold yaw b_l_pick
 walk_at "w"
 refine ⟨⟨by decide, trivial⟩, kay (by omega) fun r m x0 x1 => ?_⟩
 walk_at "w"
 exact atI_in x0 x1 fun d hd => by walk_at "w"; exact ⟨by decide, h d _ hd⟩
end
def lt9 (s j : Nat) : Str := ⟨#[97 + (s + 7 * j) % 26]⟩
def nm9 (s z j : Nat) : Str := Txt.mul (lt9 s j) (z : Int)
def nms9 (s z : Nat) : List Str := (List.range 5).map (nm9 s z)
def wish9 (s z j : Nat) : Th := .w (zs (nm9 s z j)) (zs (lt9 s j)) (.kd .any) (zb false) (zb false) (zb false)
def bare9 (s z j : Nat) : Th := .w (zs (nm9 s z j)) (.s .non) (.vd (.s .non)) (zb false) (zb false) (zb false)
def place9 (s z j : Nat) : Th := .p (zs (nm9 s z j)) (.kd (.beg "a")) (zs "some")
def one9 (s z j : Nat) : Th := .p (zs (nm9 s z j)) (.kd .any) (zs "one")
def prs9 (s z : Nat) : List (Str × Str) := (nms9 s z).flatMap fun a => ((nms9 s z).filter fun b => strLt a b).map fun b => (a, b)
def pr9 (p : Str × Str) : Th := .d (.tup [zs p.1, zs p.2])
def kac (s z t : Nat) : List (Str × Str) := ((prs9 s z).drop t).take 4
def qr (s z t : Nat) : Str × Str := ((prs9 s z).filter fun p => decide (p ∉ kac s z t)).headD ("", "")
def vaf (s z : Nat) : List (Str × Str) := ((prs9 s z).take 2).map (fun p => (p.2, p.1)) ++ (prs9 s z).take 2
def jan (s z : Nat) : Str × Str := (prs9 s z).getD 2 ("", "")
def qb (s z t : Nat) : Nat → List Th
 | 0 => (List.range 5).map (wish9 s z) ++ [bare9 s z 9]
 | 1 => (List.range 4).map (fun j => place9 s z (5 + j)) ++ [one9 s z 10]
 | 2 => (kac s z t).map pr9 ++ [pr9 (qr s z t)]
 | _ => (vaf s z).map pr9 ++ [pr9 (jan s z)]
def xal : Nat → Nat
 | 0 => 5
 | _ => 4
def va (s z t k : Nat) : List Th := (qb s z t k).take (xal k)
def g9 (s z : Nat) : Nat → List Th → Nat → Bool
 | 0 => gW
 | 1 => gP (nms9 s z)
 | 2 => gB (nms9 s z)
 | _ => gN (nms9 s z)
def sz9 : List Nat := [2, 8, 5]
theorem right_w : ∀ s < 26, ∀ z ∈ sz9, ∀ i < 5, gW (qb s z 0 0) i = true := by decide +kernel
theorem right_p : ∀ s < 26, ∀ z ∈ sz9, ∀ i < 4, gP (nms9 s z) (qb s z 0 1) i = true := by decide +kernel
theorem right_n : ∀ s < 26, ∀ z ∈ sz9, ∀ i < 4, gN (nms9 s z) (qb s z 0 3) i = true := by decide +kernel
theorem right_b : ∀ s < 26, ∀ z ∈ sz9, ∀ t < 6, ∀ i < 4, gB (nms9 s z) (qb s z t 2) i = true := by decide +kernel
theorem len9 : ∀ s < 26, ∀ z ∈ sz9, (prs9 s z).length = 10 := by decide +kernel
theorem free_in : ∀ s < 26, ∀ z ∈ sz9, ∀ t < 6, ((prs9 s z).filter fun p => decide (p ∉ kac s z t)).head? = some (qr s z t) := by decide +kernel
theorem nm_ok : ∀ s < 26, ∀ z ∈ sz9, ∀ j < 11, okS (nm9 s z j) ∧ (nm9 s z j).length = z := by decide +kernel
section
variable {A : Ads} {Q : Rv → En → Prop} {QF : Fl → En → Prop} {E : Exn → En → Prop}
def prsOf (ns : List Str) (a : Str) : List (Str × Str) := (ns.filter fun b => strLt a b).map fun b => (a, b)
theorem prsOf_len (ns : List Str) (a : Str) : (prsOf ns a).length ≤ ns.length := by
 unfold prsOf
 rw [List.length_map]
 exact List.length_filter_le _ _
theorem flat_prs (ns : List Str) : ∀ l : List Str, (l.flatMap (prsOf ns)).length ≤ l.length * ns.length
 | [] => by simp
 | a :: l => by
  have := flat_prs ns l
  have := prsOf_len ns a
  rw [List.flatMap_cons, List.length_append, List.length_cons, Nat.add_mul, Nat.one_mul]
  omega
theorem jbp {ns : List Str} (hl : ns.length ≤ 10) (h : Q (.dat (.lst ((ns.flatMap (prsOf ns)).map prD))) [.dat (.lst (ns.map zs))]) : wp (qp A) Q E [.dat (.lst (ns.map zs))] := by
 unfold qp qaq
 walk_at "w"
 refine ⟨ja (by decide), by decide, ?_⟩
 refine vbn (fun i r => ∃ (c2 : Cell), r = [.dat (.lst (ns.map zs)), .dat (.lst (((ns.take i).flatMap (prsOf ns)).map prD)), c2, .no]) ⟨_, rfl⟩ (fun i d r hd hI => ?_) (fun r hI => ?_)
 ·obtain ⟨c2, rfl⟩ := hI
  rw [List.getElem?_map] at hd
  obtain ⟨w, hwi, rfl⟩ := Option.map_eq_some_iff.mp hd
  have hi := (List.getElem?_eq_some_iff.mp hwi).1
  walk_at "w"
  refine ⟨by decide, ?_⟩
  refine ja4 (PL.ya0 (vs := [3]) ns zs (fun b => strLt w b) (fun b => prD (w, b)) (ja (by omega)) fun b m => ?_) ?_
  ·walk_at "w"
   refine ⟨by decide, trivial, ?_⟩
   split
   ·exact ⟨ja (by decide), rfl, trivial⟩
   ·trivial
  ·walk_at "w"
   rw [List.length_map, List.length_map]
   have h1 := flat_prs ns (ns.take i)
   have h2 : (ns.filter fun b => strLt w b).length ≤ ns.length := List.length_filter_le _ _
   have h3 := Nat.mul_le_mul (show (ns.take i).length ≤ 10 by rw [List.length_take]; omega) hl
   refine ⟨ja (by omega), by decide, .dat (zs w), ?_⟩
   rw [List.take_add_one, hwi, List.flatMap_append, List.map_append]
   simp only [Option.toList_some, List.flatMap_singleton]
   unfold prsOf
   rw [List.map_map]
   rfl
 ·obtain ⟨c2, rfl⟩ := hI
  rw [List.length_map, List.take_length]
  walk_at "w"
  exact h
end
def wrd9 : Nat → Str
 | 0 => "wishes"
 | 1 => "places"
 | 2 => "bars"
 | _ => "needs"
theorem fst_none {g : Nat → Bool} {n : Nat} (h : ∀ i, i < n → g i = true) : fstB g n = none := by
 unfold fstB
 rw [List.find?_eq_none]
 intro i hi
 rw [h i (List.mem_range.mp hi)]
 decide
theorem fst_at {g : Nat → Bool} {n k : Nat} (h : ∀ i, i < k → g i = true) (hk : g k = false) (hn : k < n) : fstB g n = some k := by
 unfold fstB
 exact L2.find_range _ hn (by rw [hk]; rfl) fun j hj => by rw [h j hj]; rfl
theorem g9_congr {s z k i : Nat} {ts us : List Th} (h1 : ts.take i = us.take i) (h2 : thAt ts i = thAt us i) : g9 s z k ts i = g9 s z k us i := by
 match k with
 | 0 => show gW ts i = gW us i; unfold gW; rw [h1, h2]
 | 1 => show gP _ ts i = gP _ us i; unfold gP; rw [h1, h2]
 | 2 => show gB _ ts i = gB _ us i; unfold gB gN; rw [h1, h2]
 | k + 3 => show gN _ ts i = gN _ us i; unfold gN; rw [h1, h2]
theorem right9 {s z t k i : Nat} (hs : s < 26) (hz : z ∈ sz9) (ht : t < 6) (hi : i < xal k) : g9 s z k (qb s z t k) i = true := by
 match k, hi with
 | 0, hi => exact right_w s hs z hz i hi
 | 1, hi => exact right_p s hs z hz i hi
 | 2, hi => exact right_b s hs z hz t ht i hi
 | k + 3, hi => exact right_n s hs z hz i hi
theorem most_no {s z k : Nat} (ts : List Th) : g9 s z k ts (xal k) = false := by
 match k with
 | 0 => rfl
 | 1 => rfl
 | 2 => rfl
 | k + 3 => rfl
theorem non_no {s z k i : Nat} {ts : List Th} (h : thAt ts i = .d (.s .non)) : g9 s z k ts i = false := by
 match k with
 | 0 => show (decide (i < 5) && wishB _ _ (thAt ts i)) = false; rw [h]; exact Bool.and_false _
 | 1 => show (decide (i < 4) && vbj _ (thAt ts i)) = false; rw [h]; exact Bool.and_false _
 | 2 => show ((decide (i < 4) && (zaf _ (thAt ts i) && _)) && _) = false; rw [h]; show ((decide (i < 4) && (false && _)) && _) = false; rw [Bool.false_and, Bool.and_false, Bool.false_and]
 | k + 3 => show (decide (i < 4) && (zaf _ (thAt ts i) && _)) = false; rw [h]; show (decide (i < 4) && (false && _)) = false; rw [Bool.false_and, Bool.and_false]
theorem vah {s z t k : Nat} (hl : (prs9 s z).length = 10) (ht : t < 6) : (qb s z t k).length = xal k + 1 := by
 match k with
 | 0 => rfl
 | 1 => rfl
 | 2 => show ((kac s z t).map pr9 ++ [pr9 (qr s z t)]).length = 5; rw [List.length_append, List.length_map, kac, List.length_take, List.length_drop, List.length_singleton]; omega
 | k + 3 => show ((vaf s z).map pr9 ++ [pr9 (jan s z)]).length = 5; rw [List.length_append, List.length_map, vaf, List.length_append, List.length_map, List.length_take, List.length_singleton]; omega
theorem thAt_take {ts : List Th} {i n : Nat} (h : i < n) : thAt (ts.take n) i = thAt ts i := by
 unfold thAt
 rw [List.getD_eq_getElem?_getD, List.getD_eq_getElem?_getD, List.getElem?_take, if_pos h]
theorem kbq {s z t k : Nat} (hs : s < 26) (hz : z ∈ sz9) (ht : t < 6) (w : Str) : yi w (g9 s z k) (.t (va s z t k)) = none := by
 show (fstB (g9 s z k (va s z t k)) (va s z t k).length).map _ = none
 rw [fst_none fun i hi => ?_]
 ·rfl
 ·have hm : i < xal k := by
   unfold va at hi
   rw [List.length_take] at hi
   omega
  have e : g9 s z k (va s z t k) i = g9 s z k (qb s z t k) i := g9_congr (by unfold va; rw [List.take_take, Nat.min_eq_left (by omega)]) (thAt_take hm)
  rw [e]
  exact right9 hs hz ht hm
def qo (s z t k a : Nat) : List Th := (qb s z t k).take a ++ [.d (.s .non)] ++ (qb s z t k).drop (a + 1)
theorem due_f {s z t k : Nat} (hs : s < 26) (hz : z ∈ sz9) (ht : t < 6) (w : Str) : yi w (g9 s z k) (.t (qb s z t k)) = some (w, ((xal k : Nat) : Int)) := by
 show (fstB (g9 s z k (qb s z t k)) (qb s z t k).length).map _ = _
 rw [fst_at (fun i hi => right9 hs hz ht hi) (most_no _) (by rw [vah (len9 s hs z hz) ht]; omega)]
 rfl
theorem due_s {s z t k a : Nat} (hs : s < 26) (hz : z ∈ sz9) (ht : t < 6) (ha : a ≤ xal k) (w : Str) : yi w (g9 s z k) (.t (qo s z t k a)) = some (w, ((a : Nat) : Int)) := by
 have hl := vah (k := k) (len9 s hs z hz) ht
 have ht1 : ((qb s z t k).take a).length = a := by rw [List.length_take]; omega
 show (fstB (g9 s z k (qo s z t k a)) (qo s z t k a).length).map _ = _
 have key : fstB (g9 s z k (qo s z t k a)) (qo s z t k a).length = some a := by
  refine fst_at (fun i hi => ?_) (non_no ?_) ?_
  ·have e : g9 s z k (qo s z t k a) i = g9 s z k (qb s z t k) i := by
    refine g9_congr ?_ ?_
    ·unfold qo
     rw [List.append_assoc, List.take_append_of_le_length (by omega), List.take_take, Nat.min_eq_left (by omega)]
    ·unfold qo thAt
     rw [List.append_assoc, List.getD_eq_getElem?_getD, List.getD_eq_getElem?_getD, List.getElem?_append_left (by omega), List.getElem?_take, if_pos hi]
   rw [e]
   exact right9 hs hz ht (by omega)
  ·unfold qo thAt
   rw [List.append_assoc, List.getD_eq_getElem?_getD, List.getElem?_append_right (by omega), ht1, Nat.sub_self]
   rfl
  ·unfold qo
   rw [List.length_append, List.length_append, ht1, List.length_singleton]
   omega
 rw [key]
 rfl
theorem nms_b {s z t : Nat} : nmsT (.t (va s z t 0)) = nms9 s z := rfl
theorem due_base {s z t : Nat} (hs : s < 26) (hz : z ∈ sz9) (ht : t < 6) : due (.t (va s z t 0)) (.t (va s z t 1)) (.t (va s z t 2)) (.t (va s z t 3)) = none := by
 have h0 : yi "wishes" gW (.t (va s z t 0)) = none := kbq (k := 0) hs hz ht "wishes"
 have h1 : yi "places" (gP (nms9 s z)) (.t (va s z t 1)) = none := kbq (k := 1) hs hz ht "places"
 have h2 : yi "bars" (gB (nms9 s z)) (.t (va s z t 2)) = none := kbq (k := 2) hs hz ht "bars"
 have h3 : yi "needs" (gN (nms9 s z)) (.t (va s z t 3)) = none := kbq (k := 3) hs hz ht "needs"
 unfold due
 rw [h0, nms_b, h1, h2, h3]
def pt9 (s z t p : Nat) (X : Pt) (k : Nat) : Pt := if k = p then X else .t (va s z t k)
theorem due_at {s z t p : Nat} {X : Pt} {n : Int} (hs : s < 26) (hz : z ∈ sz9) (ht : t < 6) (hp : p < 4) (h : yi (wrd9 p) (g9 s z p) X = some (wrd9 p, n)) : due (pt9 s z t p X 0) (pt9 s z t p X 1) (pt9 s z t p X 2) (pt9 s z t p X 3) = some (wrd9 p, n) := by
 have h0 : yi "wishes" gW (.t (va s z t 0)) = none := kbq (k := 0) hs hz ht "wishes"
 have h1 : yi "places" (gP (nms9 s z)) (.t (va s z t 1)) = none := kbq (k := 1) hs hz ht "places"
 have h2 : yi "bars" (gB (nms9 s z)) (.t (va s z t 2)) = none := kbq (k := 2) hs hz ht "bars"
 match p, hp with
 | 0, _ =>
  have h : yi "wishes" gW X = some (("wishes" : Str), n) := h
  show due X (.t (va s z t 1)) (.t (va s z t 2)) (.t (va s z t 3)) = _
  unfold due
  rw [h]
  rfl
 | 1, _ =>
  have h : yi "places" (gP (nms9 s z)) X = some (("places" : Str), n) := h
  show due (.t (va s z t 0)) X (.t (va s z t 2)) (.t (va s z t 3)) = _
  unfold due
  rw [h0, nms_b, h]
  rfl
 | 2, _ =>
  have h : yi "bars" (gB (nms9 s z)) X = some (("bars" : Str), n) := h
  show due (.t (va s z t 0)) (.t (va s z t 1)) X (.t (va s z t 3)) = _
  unfold due
  rw [h0, nms_b, h1, h]
  rfl
 | 3, _ =>
  have h : yi "needs" (gN (nms9 s z)) X = some (("needs" : Str), n) := h
  show due (.t (va s z t 0)) (.t (va s z t 1)) (.t (va s z t 2)) X = _
  unfold due
  rw [h0, nms_b, h1, h2, h]
  rfl
theorem th_ok {s z t k : Nat} (hs : s < 26) (hz : z ∈ sz9) (ht : t < 6) : ∀ x ∈ qb s z t k, ThOk x := by
 have nmo : ∀ j, j < 11 → OV (zs (nm9 s z j)) := fun j hj => by
  obtain ⟨h1, h2⟩ := nm_ok s hs z hz j hj
  exact .inl (.inr (.inr (.inr ⟨_, rfl, h1, by
   simp only [sz9, List.mem_cons, List.not_mem_nil, or_false] at hz
   omega⟩)))
 have lto : ∀ j, OVf (zs (lt9 s j)) := fun j => .inr (.inr (.inr ⟨_, rfl, by
  have : (s + 7 * j) % 26 < 26 := Nat.mod_lt _ (by decide)
  rw [okS_iff]
  intro c hc
  have : c = 97 + (s + 7 * j) % 26 := by simpa [lt9] using hc
  omega, show (1 : Nat) ≤ 200 by decide⟩))
 have fl : ∀ b, OVf (zb b) := fun b => .inr (.inr (.inl ⟨b, rfl⟩))
 have pro : ∀ p ∈ prs9 s z, ThOk (pr9 p) ∧ ThOk (pr9 (p.2, p.1)) := fun p hp => by
  obtain ⟨a, ha, hb⟩ := List.mem_flatMap.mp hp
  obtain ⟨b, hb2, rfl⟩ := List.mem_map.mp hb
  have hb3 := (List.mem_filter.mp hb2).1
  have each : ∀ x ∈ nms9 s z, OVf (zs x) := fun x hx => by
   obtain ⟨j, hj, rfl⟩ := List.mem_map.mp hx
   rw [List.mem_range] at hj
   obtain ⟨h1, h2⟩ := nm_ok s hs z hz j (by omega)
   exact .inr (.inr (.inr ⟨_, rfl, h1, by
    simp only [sz9, List.mem_cons, List.not_mem_nil, or_false] at hz
    omega⟩))
  refine ⟨.inr (.inr (.inl ⟨_, rfl, show (2 : Nat) ≤ 3 by decide, fun x hx => ?_⟩)), .inr (.inr (.inl ⟨_, rfl, show (2 : Nat) ≤ 3 by decide, fun x hx => ?_⟩))⟩
  ·simp only [List.mem_cons, List.not_mem_nil, or_false] at hx
   rcases hx with rfl | rfl
   ·exact each _ ha
   ·exact each _ hb3
  ·simp only [List.mem_cons, List.not_mem_nil, or_false] at hx
   rcases hx with rfl | rfl
   ·exact each _ hb3
   ·exact each _ ha
 intro x hx
 match k, hx with
 | 0, hx =>
  rcases List.mem_append.mp hx with hx | hx
  ·obtain ⟨j, hj, rfl⟩ := List.mem_map.mp hx
   rw [List.mem_range] at hj
   exact ⟨nmo j (by omega), lto j, trivial, fl _, fl _, fl _⟩
  ·rw [List.mem_singleton.mp hx]
   exact ⟨nmo 9 (by omega), .inl rfl, .inl (.inl rfl), fl _, fl _, fl _⟩
 | 1, hx =>
  rcases List.mem_append.mp hx with hx | hx
  ·obtain ⟨j, hj, rfl⟩ := List.mem_map.mp hx
   rw [List.mem_range] at hj
   exact ⟨nmo (5 + j) (by omega), by show Kd.ok (.beg "a"); refine ⟨?_, ?_⟩ <;> decide +kernel, .inl (.inr (.inr (.inr ⟨_, rfl, by decide +kernel, by decide +kernel⟩)))⟩
  ·rw [List.mem_singleton.mp hx]
   exact ⟨nmo 10 (by omega), trivial, .inl (.inr (.inr (.inr ⟨_, rfl, by decide +kernel, by decide +kernel⟩)))⟩
 | 2, hx =>
  rcases List.mem_append.mp hx with hx | hx
  ·obtain ⟨p, hp, rfl⟩ := List.mem_map.mp hx
   exact (pro p (List.mem_of_mem_drop (List.mem_of_mem_take hp))).1
  ·rw [List.mem_singleton.mp hx]
   have := List.mem_of_mem_head? (free_in s hs z hz t ht)
   exact (pro _ (List.mem_filter.mp this).1).1
 | k + 3, hx =>
  rcases List.mem_append.mp hx with hx | hx
  ·obtain ⟨p, hp, rfl⟩ := List.mem_map.mp hx
   rcases List.mem_append.mp hp with hp | hp
   ·obtain ⟨q, hq, rfl⟩ := List.mem_map.mp hp
    exact (pro q (List.mem_of_mem_take hq)).2
   ·exact (pro p (List.mem_of_mem_take hp)).1
  ·rw [List.mem_singleton.mp hx]
   refine (pro _ ?_).1
   unfold jan
   have := len9 s hs z hz
   rw [List.getD_eq_getElem?_getD, List.getElem?_eq_getElem (by omega)]
   exact List.getElem_mem _
theorem let_at9 : ∀ r, r < 26 → atI (Str.ofString "abcdefghijklmnopqrstuvwxyz").cps.toList ((r : Nat) : Int) = some (97 + r) := by decide +kernel
theorem fst9 : ∀ s < 26, ∀ z ∈ sz9, ∀ j < 11, atI (nm9 s z j).cps.toList 0 = some (97 + (s + 7 * j) % 26) := by decide +kernel
theorem cut4 {α : Type} {xs : List α} {t : Nat} (hl : xs.length = 10) (ht : t < 6) : cutG xs (some (t : Int)) (some ((t : Int) + 4)) = (xs.drop t).take 4 := by
 rw [show ((t : Int) + 4) = ((t + 4 : Nat) : Int) by omega]
 unfold cutG
 rw [HT.sIx_nat, HT.sIx_nat, hl, show min t 10 = t by omega, show min (t + 4) 10 - t = 4 by omega]
theorem base_b {s z t : Nat} (hl : (prs9 s z).length = 10) (ht : t < 6) : va s z t 2 = (((prs9 s z).drop t).take 4).map pr9 := by
 show ((kac s z t).map pr9 ++ [pr9 (qr s z t)]).take 4 = _
 have h : ((kac s z t).map pr9).length = 4 := by
  rw [List.length_map, kac, List.length_take, List.length_drop]; omega
 rw [List.take_append_of_le_length (by omega), List.take_of_length_le (by omega)]
 rfl
theorem base_n {s z t : Nat} (hl : (prs9 s z).length = 10) : va s z t 3 = (vaf s z).map pr9 := by
 show ((vaf s z).map pr9 ++ [pr9 (jan s z)]).take 4 = _
 have h : ((vaf s z).map pr9).length = 4 := by
  rw [List.length_map, vaf, List.length_append, List.length_map, List.length_take]; omega
 rw [List.take_append_of_le_length (by omega), List.take_of_length_le (by omega)]
theorem ka6 {α : Type} (xs : List α) (n : Nat) : cutG xs none (some (n : Int)) = xs.take n := by
 unfold cutG
 rw [HT.sIx_nat, HT.sIx_none, Nat.sub_zero, List.drop_zero]
 rcases Nat.le_total n xs.length with h | h
 ·rw [Nat.min_eq_left h]
 ·rw [Nat.min_eq_right h, List.take_length, List.take_of_length_le h]
theorem thD (A : Ads) (xs : List (Str × Str)) : (xs.map pr9).map (Th.D A) = xs.map prD := by
 rw [List.map_map]
 rfl
theorem cut_two {α : Type} (xs : List α) : cutG xs none (some 2) = xs.take 2 := ka6 xs 2
theorem full_b {A : Ads} {s z t : Nat} (hl : (prs9 s z).length = 10) (ht : t < 6) : (qb s z t 2).map (Th.D A) = (va s z t 2).map (Th.D A) ++ [prD (qr s z t)] := by
 rw [base_b hl ht]
 show ((kac s z t).map pr9 ++ [pr9 (qr s z t)]).map (Th.D A) = _
 rw [List.map_append]
 rfl
theorem full_n {A : Ads} {s z t : Nat} (hl : (prs9 s z).length = 10) : (qb s z t 3).map (Th.D A) = (va s z t 3).map (Th.D A) ++ [prD (jan s z)] := by
 rw [base_n hl]
 show ((vaf s z).map pr9 ++ [pr9 (jan s z)]).map (Th.D A) = _
 rw [List.map_append]
 rfl
theorem zbd {A : Ads} {s z t p : Nat} (hp : p < 4) : atI [D.tup ((qb s z t 0).map (Th.D A)), .tup ((qb s z t 1).map (Th.D A)), .tup ((qb s z t 2).map (Th.D A)), .tup ((qb s z t 3).map (Th.D A))] ((p : Nat) : Int) = some (.tup ((qb s z t p).map (Th.D A))) := by
 match p, hp with
 | 0, _ => rfl
 | 1, _ => rfl
 | 2, _ => rfl
 | 3, _ => rfl
theorem set_pt {A : Ads} {s z t p : Nat} {X : Pt} {x : D} (hp : p < 4) (hx : x = X.D A) : ([.tup ((va s z t 0).map (Th.D A)), .tup ((va s z t 1).map (Th.D A)), .tup ((va s z t 2).map (Th.D A)), .tup ((va s z t 3).map (Th.D A))] : List D).set p x = [(pt9 s z t p X 0).D A, (pt9 s z t p X 1).D A, (pt9 s z t p X 2).D A, (pt9 s z t p X 3).D A] := by
 subst hx
 match p, hp with
 | 0, _ => rfl
 | 1, _ => rfl
 | 2, _ => rfl
 | 3, _ => rfl
theorem set_pt2 {A : Ads} {s z t p : Nat} {X Y : Pt} {x : D} (hp : p < 4) (hx : x = X.D A) : ([(pt9 s z t p Y 0).D A, (pt9 s z t p Y 1).D A, (pt9 s z t p Y 2).D A, (pt9 s z t p Y 3).D A] : List D).set p x = [(pt9 s z t p X 0).D A, (pt9 s z t p X 1).D A, (pt9 s z t p X 2).D A, (pt9 s z t p X 3).D A] := by
 subst hx
 match p, hp with
 | 0, _ => rfl
 | 1, _ => rfl
 | 2, _ => rfl
 | 3, _ => rfl
theorem wrd_at {p : Nat} (hp : p < 4) : atI [D.s (.str "wishes"), .s (.str "places"), .s (.str "bars"), .s (.str "needs")] ((p : Nat) : Int) = some (zs (wrd9 p)) := by
 match p, hp with
 | 0, _ => rfl
 | 1, _ => rfl
 | 2, _ => rfl
 | 3, _ => rfl
theorem mst_at {p : Nat} (hp : p < 4) : atI [D.s (.int 5), .s (.int 4), .s (.int 4), .s (.int 4)] ((p : Nat) : Int) = some (zi ((xal p : Nat) : Int)) := by
 match p, hp with
 | 0, _ => rfl
 | 1, _ => rfl
 | 2, _ => rfl
 | 3, _ => rfl
section
variable {A : Ads} {Q : Rv → En → Prop} {QF : Fl → En → Prop} {E : Exn → En → Prop}
theorem law_true {ns : List Int} (hn : ns.length ≤ 63) : wp (F_law A) (fun r _ => r = rvB true) EF [.dat (.ro (ns.map fun i => D.s (.int i)))] := by
 unfold F_law b_law
 rw [PL.wp_run]
 refine jd (Q1 := fun r => r = [.dat (.ro (ns.map zi)), .dat (zs "abcdefghijklmnopqrstuvwxyz"), .no, .no, .no, .no, .no, .no, .no, .no, .no, .no, .no, .no, .no, .no, .no, .no, .no, .no, .no, .no, .no]) (by walk_at "w"; simp) fun r hr => ?_
 subst hr
 refine seq_or (fun r => ∃ c2 c3 c4 c5 c6 c7 c8 c9 c10 c11 c12 c13 c14 c15 c16 c17 c18 c19, r = [.dat (.ro (ns.map zi)), .dat (zs "abcdefghijklmnopqrstuvwxyz"), c2, c3, c4, c5, c6, c7, c8, c9, c10, c11, c12, c13, c14, c15, c16, c17, c18, c19, .no, .no, .no]) ?_ fun r hr => ?_
 ·rw [PL.jbi]
  walk_at "w"
  rw [List.length_map]
  refine ⟨?_, ?_⟩
  ·refine wal ?_ ?_ <;> (repeat' split) <;> omega
  obtain ⟨K, hK, hK2⟩ : ∃ K : Nat, (if (if (ns.length : Int) < 20 then (ns.length : Int) else 20) > 1 then (if (ns.length : Int) < 20 then (ns.length : Int) else 20) else 1).toNat = K ∧ K ≤ 63 := ⟨_, rfl, by (repeat' split) <;> omega⟩
  rw [hK]
  refine vbn (fun i r => ∃ c2 c3 c4 c5 c6 c7 c8 c9 c10 c11 c12 c13 c14 c15 c16 c17 c18 c19, r = [.dat (.ro (ns.map zi)), .dat (zs "abcdefghijklmnopqrstuvwxyz"), c2, c3, c4, c5, c6, c7, c8, c9, c10, c11, c12, c13, c14, c15, c16, c17, c18, c19, .no, .no, .no]) ⟨_, _, _, _, _, _, _, _, _, _, _, _, _, _, _, _, _, _, rfl⟩ (fun i d r hd hI => ?_) (fun r hI => ?_)
  ·obtain ⟨c2, c3, c4, c5, c6, c7, c8, c9, c10, c11, c12, c13, c14, c15, c16, c17, c18, c19, rfl⟩ := hI
   obtain ⟨hi, rfl⟩ := rngD_get hd
   have h0i : (0 : Int) + (i : Int) = ((i : Nat) : Int) := by omega
   rw [h0i, PL.aN_eq]
   clear hd
   refine ⟨by simp, ?_⟩
   refine jd (Q1 := fun r => ∃ m : Dw, r = [.dat (.ro (ns.map zi)), .dat (zs "abcdefghijklmnopqrstuvwxyz"), .dat (zi i), dw m, c4, c5, c6, c7, c8, c9, c10, c11, c12, c13, c14, c15, c16, c17, c18, c19, .no, .no, .no]) ?_ fun r hr => ?_
   ·walk_at "w"
    refine ⟨⟨by decide, trivial⟩, draw_ok (c := 0) fun m => ?_⟩
    walk_at "w"
    exact ⟨by decide, trivial, m, rfl⟩
   obtain ⟨m, rfl⟩ := hr
   refine jd (Q1 := fun r => ∃ (m : Dw) (z : Nat), z ∈ sz9 ∧ r = [.dat (.ro (ns.map zi)), .dat (zs "abcdefghijklmnopqrstuvwxyz"), .dat (zi i), dw m, .dat (zi z), c5, c6, c7, c8, c9, c10, c11, c12, c13, c14, c15, c16, c17, c18, c19, .no, .no, .no]) ?_ fun r hr => ?_
   ·walk_at "w"
    refine ⟨ja (by decide), ⟨by decide, trivial⟩, pick_ok (by decide) (by decide) fun d m hd => ?_⟩
    walk_at "w"
    refine ⟨by decide, trivial, ?_⟩
    simp only [List.mem_cons, List.not_mem_nil, or_false] at hd
    rcases hd with rfl | rfl | rfl
    ·exact ⟨m, 2, by decide, rfl⟩
    ·exact ⟨m, 8, by decide, rfl⟩
    ·exact ⟨m, 5, by decide, rfl⟩
   obtain ⟨m, z, hz, rfl⟩ := hr
   have hz8 : 2 ≤ z ∧ z ≤ 8 := by
    simp only [sz9, List.mem_cons, List.not_mem_nil, or_false] at hz
    omega
   refine jd (Q1 := fun r => ∃ (m : Dw) (s : Nat), s < 26 ∧ r = [.dat (.ro (ns.map zi)), .dat (zs "abcdefghijklmnopqrstuvwxyz"), .dat (zi i), dw m, .dat (zi z), .dat (zi s), c6, c7, c8, c9, c10, c11, c12, c13, c14, c15, c16, c17, c18, c19, .no, .no, .no]) ?_ fun r hr => ?_
   ·walk_at "w"
    refine ⟨⟨by decide, trivial⟩, kay (by decide) fun r1 m x0 x1 => ?_⟩
    walk_at "w"
    exact ⟨by decide, trivial, m, r1.toNat, by omega, by rw [Int.toNat_of_nonneg x0]⟩
   obtain ⟨m, s, hs, rfl⟩ := hr
   refine jd (Q1 := fun r => r = [.dat (.ro (ns.map zi)), .dat (zs "abcdefghijklmnopqrstuvwxyz"), .dat (zi i), dw m, .dat (zi z), .dat (zi s), .dat (.lst ((List.range 11).map fun j => zs (nm9 s z j))), c7, c8, c9, c10, c11, c12, c13, c14, c15, c16, c17, c18, c19, .no, .no, .no]) ?_ fun r hr => ?_
   ·walk_at "w"
    refine ⟨wal (by decide) (by decide), ?_⟩
    refine ja4 (PL.ki (vs := [20]) (List.range 11) (fun j => D.s (V.int (0 + ((j : Nat) : Int)))) (fun j => zs (nm9 s z j)) (ja (by decide)) fun j m => ?_) ?_
    ·rw [List.mem_range] at m
     walk_at "w"
     have e : (((s : Int) + 7 * (0 + (j : Int))) % 26) = (((s + 7 * j) % 26 : Nat) : Int) := by omega
     rw [e]
     refine ⟨by decide, jbd (by decide), by decide, ja (by decide), ?_⟩
     rw [let_at9 _ (Nat.mod_lt _ (by decide))]
     refine ⟨?_, rfl, trivial⟩
     unfold qas
     rw [Bool.and_eq_true, Bool.and_eq_true, decide_eq_true_eq, decide_eq_true_eq, decide_eq_true_eq]
     exact ⟨⟨by omega, by omega⟩, show (1 : Nat) ≤ 1000 by decide⟩
    ·walk_at "w"
     exact ⟨by decide, trivial, trivial⟩
   subst hr
   refine jd (Q1 := fun r => r = [.dat (.ro (ns.map zi)), .dat (zs "abcdefghijklmnopqrstuvwxyz"), .dat (zi i), dw m, .dat (zi z), .dat (zi s), .dat (.lst ((List.range 11).map fun j => zs (nm9 s z j))), .dat (.tup ((va s z 0 0).map (Th.D A))), c8, c9, c10, c11, c12, c13, c14, c15, c16, c17, c18, c19, .no, .no, .no]) ?_ fun r hr => ?_
   ·walk_at "w"
    rw [show cutG ((List.range 11).map fun j => zs (nm9 s z j)) none (some 5) = (List.range 5).map fun j => zs (nm9 s z j) from rfl]
    refine ja4 (PL.ki (vs := [21]) (List.range 5) (fun j => zs (nm9 s z j)) (fun j => Th.D A (wish9 s z j)) (ja (by decide)) fun j m => ?_) ?_
    ·rw [List.mem_range] at m
     walk_at "w"
     rw [fst9 s hs z hz j (by omega)]
     walk_at "w"
     refine ⟨by decide, ja (by rw [(nm_ok s hs z hz j (by omega)).2]; omega), trivial, ?_⟩
     unfold vj vac
     walk_at "w"
     exact ⟨⟨trivial, by decide⟩, ⟨trivial, by decide⟩, ⟨trivial, by decide⟩, ⟨trivial, by decide⟩, ⟨trivial, by decide⟩, ⟨trivial, by decide⟩, by decide, rfl, trivial⟩
    ·walk_at "w"
     exact ⟨by decide, trivial, rfl⟩
   subst hr
   refine jd (Q1 := fun r => r = [.dat (.ro (ns.map zi)), .dat (zs "abcdefghijklmnopqrstuvwxyz"), .dat (zi i), dw m, .dat (zi z), .dat (zi s), .dat (.lst ((List.range 11).map fun j => zs (nm9 s z j))), .dat (.tup ((va s z 0 0).map (Th.D A))), .dat (.tup ((va s z 0 1).map (Th.D A))), c9, c10, c11, c12, c13, c14, c15, c16, c17, c18, c19, .no, .no, .no]) ?_ fun r hr => ?_
   ·walk_at "w"
    rw [show cutG ((List.range 11).map fun j => zs (nm9 s z j)) (some 5) (some 9) = ([5, 6, 7, 8] : List Nat).map fun j => zs (nm9 s z j) from rfl]
    refine ja4 (PL.ki (vs := [21]) [5, 6, 7, 8] (fun j => zs (nm9 s z j)) (fun j => Th.D A (place9 s z j)) (ja (by decide)) fun j m => ?_) ?_
    ·walk_at "w"
     refine ⟨by decide, trivial, ?_⟩
     unfold ju zak
     walk_at "w"
     refine ⟨⟨trivial, by decide⟩, by decide, trivial, ?_⟩
     unfold wk wz
     walk_at "w"
     exact ⟨⟨trivial, by decide⟩, ⟨trivial, by decide⟩, ⟨trivial, by decide⟩, by decide, rfl, trivial⟩
    ·walk_at "w"
     exact ⟨by decide, trivial, rfl⟩
   subst hr
   refine jd (Q1 := fun r => r = [.dat (.ro (ns.map zi)), .dat (zs "abcdefghijklmnopqrstuvwxyz"), .dat (zi i), dw m, .dat (zi z), .dat (zi s), .dat (.lst ((List.range 11).map fun j => zs (nm9 s z j))), .dat (.tup ((va s z 0 0).map (Th.D A))), .dat (.tup ((va s z 0 1).map (Th.D A))), .dat (.lst ((prs9 s z).map prD)), c10, c11, c12, c13, c14, c15, c16, c17, c18, c19, .no, .no, .no]) ?_ fun r hr => ?_
   ·walk_at "w"
    rw [show cutG ((List.range 11).map fun j => zs (nm9 s z j)) none (some 5) = (nms9 s z).map zs from rfl]
    refine ⟨⟨by decide, trivial⟩, jbp (show (5 : Nat) ≤ 10 by decide) ?_⟩
    walk_at "w"
    exact ⟨by decide, trivial, rfl⟩
   subst hr
   refine jd (Q1 := fun r => ∃ (m : Dw) (t : Nat), t < 6 ∧ r = [.dat (.ro (ns.map zi)), .dat (zs "abcdefghijklmnopqrstuvwxyz"), .dat (zi i), dw m, .dat (zi z), .dat (zi s), .dat (.lst ((List.range 11).map fun j => zs (nm9 s z j))), .dat (.tup ((va s z 0 0).map (Th.D A))), .dat (.tup ((va s z 0 1).map (Th.D A))), .dat (.lst ((prs9 s z).map prD)), .dat (zi t), c11, c12, c13, c14, c15, c16, c17, c18, c19, .no, .no, .no]) ?_ fun r hr => ?_
   ·walk_at "w"
    refine ⟨⟨by decide, trivial⟩, kay (by decide) fun r1 m x0 x1 => ?_⟩
    walk_at "w"
    exact ⟨by decide, trivial, m, r1.toNat, by omega, by rw [Int.toNat_of_nonneg x0]⟩
   obtain ⟨m, t, ht, rfl⟩ := hr
   have hpl := len9 s hs z hz
   refine jd (Q1 := fun r => r = [.dat (.ro (ns.map zi)), .dat (zs "abcdefghijklmnopqrstuvwxyz"), .dat (zi i), dw m, .dat (zi z), .dat (zi s), .dat (.lst ((List.range 11).map fun j => zs (nm9 s z j))), .dat (.tup ((va s z t 0).map (Th.D A))), .dat (.tup ((va s z t 1).map (Th.D A))), .dat (.lst ((prs9 s z).map prD)), .dat (zi t), .dat (.tup ((va s z t 2).map (Th.D A))), c12, c13, c14, c15, c16, c17, c18, c19, .no, .no, .no]) ?_ fun r hr => ?_
   ·walk_at "w"
    refine ⟨by decide, trivial, ?_⟩
    rw [cut4 (by rw [List.length_map]; exact hpl) ht, ← List.map_drop, ← List.map_take, base_b hpl ht, thD]
    rfl
   subst hr
   refine jd (Q1 := fun r => r = [.dat (.ro (ns.map zi)), .dat (zs "abcdefghijklmnopqrstuvwxyz"), .dat (zi i), dw m, .dat (zi z), .dat (zi s), .dat (.lst ((List.range 11).map fun j => zs (nm9 s z j))), .dat (.tup ((va s z t 0).map (Th.D A))), .dat (.tup ((va s z t 1).map (Th.D A))), .dat (.lst ((prs9 s z).map prD)), .dat (zi t), .dat (.tup ((va s z t 2).map (Th.D A))), .dat (.tup ((va s z t 3).map (Th.D A))), c13, c14, c15, c16, c17, c18, c19, .no, .no, .no]) ?_ fun r hr => ?_
   ·walk_at "w"
    rw [cut_two, ← List.map_take]
    refine ja4 (PL.ki (vs := [22]) ((prs9 s z).take 2) prD (fun p => prD (p.2, p.1)) (ja (by rw [List.length_take]; omega)) fun p m => ?_) ?_
    ·unfold prD
     walk_at "w"
     exact ⟨by decide, rfl, trivial⟩
    ·walk_at "w"
     rw [cut_two, ← List.map_take, List.length_map, List.length_map, List.length_take]
     refine ⟨ja (by omega), by decide, trivial, ?_⟩
     rw [base_n hpl, thD, vaf, List.map_append, List.map_map]
     rfl
   subst hr
   have hok : ∀ k, PtOk (.t (va s z t k)) := fun k => ⟨by unfold va; rw [List.length_take, vah hpl ht]; unfold xal; split <;> omega, fun x hx => th_ok hs hz ht x (List.mem_of_mem_take hx)⟩
   have hdb := due_base hs hz ht
   have hpt : ∀ {p : Nat} {X : Pt}, PtOk X → ∀ k, PtOk (pt9 s z t p X k) := fun {p X} hX k => by
    unfold pt9
    split
    ·exact hX
    ·exact hok k
   have hbl : ∀ k, (va s z t k).length ≤ 5 := fun k => by unfold va; rw [List.length_take, vah hpl ht]; unfold xal; split <;> omega
   have hbD : (va s z t 2).map (Th.D A) = (kac s z t).map prD := by rw [base_b hpl ht, thD]; rfl
   have hnm : ∀ x ∈ nms9 s z, okS x := fun x hx => by
    obtain ⟨j, hj, rfl⟩ := List.mem_map.mp hx
    rw [List.mem_range] at hj
    exact (nm_ok s hs z hz j (by omega)).1
   have hprs : ∀ q ∈ prs9 s z, okS q.1 ∧ okS q.2 := fun q hq => by
    obtain ⟨a, ha, hb⟩ := List.mem_flatMap.mp hq
    obtain ⟨b, hb2, rfl⟩ := List.mem_map.mp hb
    exact ⟨hnm a ha, hnm b (List.mem_filter.mp hb2).1⟩
   refine jd (Q1 := fun r => r = [.dat (.ro (ns.map zi)), .dat (zs "abcdefghijklmnopqrstuvwxyz"), .dat (zi i), dw m, .dat (zi z), .dat (zi s), .dat (.lst ((List.range 11).map fun j => zs (nm9 s z j))), .dat (.tup ((va s z t 0).map (Th.D A))), .dat (.tup ((va s z t 1).map (Th.D A))), .dat (.lst ((prs9 s z).map prD)), .dat (zi t), .dat (.tup ((va s z t 2).map (Th.D A))), .dat (.tup ((va s z t 3).map (Th.D A))), c13, c14, c15, c16, c17, c18, c19, .no, .no, .no]) ?_ fun r hr => ?_
   ·walk_at "w"
    refine ⟨ja (by decide), ⟨by decide, trivial⟩, at_ok (hok 0) (hok 1) (hok 2) (hok 3) (.inl rfl) ?_⟩
    rw [hdb]
    walk_at "w"
    rw [if_neg (by decide)]
    exact ⟨trivial, trivial⟩
   subst hr
   refine jd (Q1 := fun r => ∃ c13 c14 c15 c16 c17 c18 c19, r = [.dat (.ro (ns.map zi)), .dat (zs "abcdefghijklmnopqrstuvwxyz"), .dat (zi i), dw m, .dat (zi z), .dat (zi s), .dat (.lst ((List.range 11).map fun j => zs (nm9 s z j))), .dat (.tup ((va s z t 0).map (Th.D A))), .dat (.tup ((va s z t 1).map (Th.D A))), .dat (.lst ((prs9 s z).map prD)), .dat (zi t), .dat (.tup ((va s z t 2).map (Th.D A))), .dat (.tup ((va s z t 3).map (Th.D A))), c13, c14, c15, c16, c17, c18, c19, .no, .no, .no]) ?_ fun r hr => ?_
   ·refine wp_lab (fl := .next) (fun j hj => ?_) (fun as => ?_) ⟨rfl, .dat (.obj A.c_Table [("wishes", .tup ((va s z t 0).map (Th.D A))), ("places", .tup ((va s z t 1).map (Th.D A))), ("bars", .tup ((va s z t 2).map (Th.D A))), ("needs", .tup ((va s z t 3).map (Th.D A)))]), unlC c14, unlC c15, unlC c16, unlC c17, unlC c18, unlC c19, rfl⟩
    ·simp only [List.mem_cons, List.not_mem_nil, or_false] at hj
     rcases hj with rfl | rfl | rfl | rfl <;> exact ⟨_, rfl⟩
    ·show wp _ _ _ [.dat (.ro (ns.map zi)), .dat (zs "abcdefghijklmnopqrstuvwxyz"), .dat (zi i), dw m, .dat (zi z), .dat (zi s), .dat (.lst ((List.range 11).map fun j => zs (nm9 s z j))), .dat (.lab (as.headD 0) (.tup ((va s z t 0).map (Th.D A)))), .dat (.lab (as.tail.headD 0) (.tup ((va s z t 1).map (Th.D A)))), .dat (.lst ((prs9 s z).map prD)), .dat (zi t), .dat (.lab (as.tail.tail.headD 0) (.tup ((va s z t 2).map (Th.D A)))), .dat (.lab (as.tail.tail.tail.headD 0) (.tup ((va s z t 3).map (Th.D A)))), c13, c14, c15, c16, c17, c18, c19, .no, .no, .no]
     generalize as.headD 0 = a1
     generalize as.tail.headD 0 = a2
     generalize as.tail.tail.headD 0 = a3
     generalize as.tail.tail.tail.headD 0 = a4
     walk_at "w"
     refine ⟨trivial, tinit_ok (hok 0) (hok 1) (hok 2) (hok 3) rfl rfl rfl rfl (fun _ r => ?_) (fun w n hd => by rw [hdb] at hd; cases hd)⟩
     walk_at "w"
     refine ⟨by decide, ja (by decide), ja (by decide), ?_⟩
     have hne : ∀ x0 x1 x2 x3 : D, neIdD (.tup [.lab a1 x0, .lab a2 x1, .lab a3 x2, .lab a4 x3]) (.tup [.lab a1 x0, .lab a2 x1, .lab a3 x2, .lab a4 x3]) = some (rvB false) := fun _ _ _ _ => by
      show (if van _ _ = true then some (rvB false) else none) = _
      rw [if_pos (by simp [van])]
     rw [hne]
     walk_at "w"
     exact ⟨rfl, rfl⟩
   obtain ⟨c13, c14, c15, c16, c17, c18, c19, rfl⟩ := hr
   refine jd (Q1 := fun r => r = [.dat (.ro (ns.map zi)), .dat (zs "abcdefghijklmnopqrstuvwxyz"), .dat (zi i), dw m, .dat (zi z), .dat (zi s), .dat (.lst ((List.range 11).map fun j => zs (nm9 s z j))), .dat (.tup ((va s z t 0).map (Th.D A))), .dat (.tup ((va s z t 1).map (Th.D A))), .dat (.lst ((prs9 s z).map prD)), .dat (zi t), .dat (.tup ((va s z t 2).map (Th.D A))), .dat (.tup ((va s z t 3).map (Th.D A))), c13, .dat (.lst [.tup ((qb s z t 0).map (Th.D A)), .tup ((qb s z t 1).map (Th.D A))]), c15, c16, c17, c18, c19, .no, .no, .no]) ?_ fun r hr => ?_
   ·walk_at "w"
    rw [show atI ((List.range 11).map fun j => zs (nm9 s z j)) 9 = some (zs (nm9 s z 9)) from rfl]
    walk_at "w"
    refine ⟨trivial, ?_⟩
    unfold vj vac
    walk_at "w"
    rw [List.length_map]
    have hb0 := hbl 0
    refine ⟨⟨trivial, by decide⟩, ⟨trivial, by decide⟩, ⟨trivial, by decide⟩, ⟨trivial, by decide⟩, ⟨trivial, by decide⟩, ⟨trivial, by decide⟩, by decide, ja (by decide), ja (by omega), ?_⟩
    rw [show atI ((List.range 11).map fun j => zs (nm9 s z j)) 10 = some (zs (nm9 s z 10)) from rfl]
    walk_at "w"
    refine ⟨trivial, ?_⟩
    unfold wk wz
    walk_at "w"
    rw [List.length_map]
    have hb1 := hbl 1
    exact ⟨⟨trivial, by decide⟩, ⟨trivial, by decide⟩, ⟨trivial, by decide⟩, by decide, ja (by decide), ja (by omega), ja (by decide), by decide, trivial, rfl⟩
   subst hr
   refine jd (Q1 := fun r => r = [.dat (.ro (ns.map zi)), .dat (zs "abcdefghijklmnopqrstuvwxyz"), .dat (zi i), dw m, .dat (zi z), .dat (zi s), .dat (.lst ((List.range 11).map fun j => zs (nm9 s z j))), .dat (.tup ((va s z t 0).map (Th.D A))), .dat (.tup ((va s z t 1).map (Th.D A))), .dat (.lst ((prs9 s z).map prD)), .dat (zi t), .dat (.tup ((va s z t 2).map (Th.D A))), .dat (.tup ((va s z t 3).map (Th.D A))), c13, .dat (.lst [.tup ((qb s z t 0).map (Th.D A)), .tup ((qb s z t 1).map (Th.D A))]), .dat (prD (qr s z t)), c16, c17, c18, c19, .no, .no, .no]) ?_ fun r hr => ?_
   ·walk_at "w"
    refine ja4 (PL.ya0 (vs := [22]) (prs9 s z) prD (fun q => decide (q ∉ kac s z t)) prD (ja (by omega)) fun q hq => ?_) ?_
    ·walk_at "w"
     refine ⟨by decide, ?_⟩
     rw [hbD]
     have e : xh (prD q) (.tup ((kac s z t).map prD)) = some (rvB (!decide (q ∈ kac s z t))) := by
      unfold xh
      rw [(in_prs (ps := kac s z t) (hprs q hq) fun x hx => hprs x (List.mem_of_mem_drop (List.mem_of_mem_take hx))).1]
     rw [e, ← decide_not]
     walk_at "w"
     refine ⟨trivial, ?_⟩
     split
     ·exact ⟨trivial, trivial⟩
     ·trivial
    ·have hf := free_in s hs z hz t ht
     cases hq : (prs9 s z).filter fun p => decide (p ∉ kac s z t) with
     | nil => rw [hq] at hf; cases hf
     | cons x r =>
      rw [hq] at hf
      have ex : x = qr s z t := by simpa using hf
      subst ex
      rw [show atI ((qr s z t :: r).map prD) 0 = some (prD (qr s z t)) by rw [qa2 (show (0 : Int) ≤ 0 by decide)]; rfl]
      walk_at "w"
      exact ⟨by decide, trivial, trivial⟩
   subst hr
   refine jd (Q1 := fun r => r = [.dat (.ro (ns.map zi)), .dat (zs "abcdefghijklmnopqrstuvwxyz"), .dat (zi i), dw m, .dat (zi z), .dat (zi s), .dat (.lst ((List.range 11).map fun j => zs (nm9 s z j))), .dat (.tup ((va s z t 0).map (Th.D A))), .dat (.tup ((va s z t 1).map (Th.D A))), .dat (.lst ((prs9 s z).map prD)), .dat (zi t), .dat (.tup ((va s z t 2).map (Th.D A))), .dat (.tup ((va s z t 3).map (Th.D A))), c13, .dat (.lst [.tup ((qb s z t 0).map (Th.D A)), .tup ((qb s z t 1).map (Th.D A)), .tup ((qb s z t 2).map (Th.D A)), .tup ((qb s z t 3).map (Th.D A))]), .dat (prD (qr s z t)), c16, c17, c18, c19, .no, .no, .no]) ?_ fun r hr => ?_
   ·walk_at "w"
    have h3 : atI ((prs9 s z).map prD) 2 = some (prD (jan s z)) := by
     rw [qa2 (by decide), List.getElem?_map]
     unfold jan
     rw [List.getD_eq_getElem?_getD, show (2 : Int).toNat = 2 from rfl, List.getElem?_eq_getElem (show 2 < (prs9 s z).length by omega)]
     rfl
    rw [h3]
    walk_at "w"
    rw [List.length_map, List.length_map]
    have hb2 := hbl 2
    have hb3 := hbl 3
    refine ⟨ja (by decide), ja (by omega), ja (by decide), ja (by omega), ja (by decide), ja (by decide), by decide, trivial, ?_⟩
    rw [full_b hpl ht, full_n hpl]
   subst hr
   refine jd (Q1 := fun r => ∃ (m : Dw) (p : Nat), p < 4 ∧ r = [.dat (.ro (ns.map zi)), .dat (zs "abcdefghijklmnopqrstuvwxyz"), .dat (zi i), dw m, .dat (zi z), .dat (zi s), .dat (.lst ((List.range 11).map fun j => zs (nm9 s z j))), .dat (.tup ((va s z t 0).map (Th.D A))), .dat (.tup ((va s z t 1).map (Th.D A))), .dat (.lst ((prs9 s z).map prD)), .dat (zi t), .dat (.tup ((va s z t 2).map (Th.D A))), .dat (.tup ((va s z t 3).map (Th.D A))), c13, .dat (.lst [.tup ((qb s z t 0).map (Th.D A)), .tup ((qb s z t 1).map (Th.D A)), .tup ((qb s z t 2).map (Th.D A)), .tup ((qb s z t 3).map (Th.D A))]), .dat (prD (qr s z t)), .dat (zi p), c17, c18, c19, .no, .no, .no]) ?_ fun r hr => ?_
   ·walk_at "w"
    refine ⟨⟨by decide, trivial⟩, kay (by decide) fun r1 m x0 x1 => ?_⟩
    walk_at "w"
    exact ⟨by decide, trivial, m, r1.toNat, by omega, by rw [Int.toNat_of_nonneg x0]⟩
   obtain ⟨m, p, hp, rfl⟩ := hr
   have hfl := vah (k := p) hpl ht
   have hm5 : xal p ≤ 5 := by unfold xal; split <;> omega
   have hfo : PtOk (.t (qb s z t p)) := ⟨by omega, fun x hx => th_ok hs hz ht x hx⟩
   have hwk : okS (wrd9 p) := by
    match p, hp with
    | 0, _ => decide +kernel
    | 1, _ => decide +kernel
    | 2, _ => decide +kernel
    | 3, _ => decide +kernel
   have hne : ∀ n : Int, neD (dueD (some (wrd9 p, n))) (.tup [zs (wrd9 p), zi n]) = some (rvB false) := fun n => ne_self (Sh.tup (n := 0) (fun d m => by
    simp only [List.mem_cons, List.not_mem_nil, or_false] at m
    rcases m with rfl | rfl
    ·exact Sh.str hwk
    ·exact Sh.int) (by decide))
   refine jd (Q1 := fun r => r = [.dat (.ro (ns.map zi)), .dat (zs "abcdefghijklmnopqrstuvwxyz"), .dat (zi i), dw m, .dat (zi z), .dat (zi s), .dat (.lst ((List.range 11).map fun j => zs (nm9 s z j))), .dat (.tup ((va s z t 0).map (Th.D A))), .dat (.tup ((va s z t 1).map (Th.D A))), .dat (.lst ((prs9 s z).map prD)), .dat (zi t), .dat (.tup ((va s z t 2).map (Th.D A))), .dat (.tup ((va s z t 3).map (Th.D A))), c13, .dat (.lst [.tup ((qb s z t 0).map (Th.D A)), .tup ((qb s z t 1).map (Th.D A)), .tup ((qb s z t 2).map (Th.D A)), .tup ((qb s z t 3).map (Th.D A))]), .dat (prD (qr s z t)), .dat (zi p), .own (.lst [.tup ((va s z t 0).map (Th.D A)), .tup ((va s z t 1).map (Th.D A)), .tup ((va s z t 2).map (Th.D A)), .tup ((va s z t 3).map (Th.D A))]), c18, c19, .no, .no, .no]) ?_ fun r hr => ?_
   ·walk_at "w"
    exact ⟨ja (by decide), by decide, trivial, trivial⟩
   subst hr
   refine jd (Q1 := fun r => r = [.dat (.ro (ns.map zi)), .dat (zs "abcdefghijklmnopqrstuvwxyz"), .dat (zi i), dw m, .dat (zi z), .dat (zi s), .dat (.lst ((List.range 11).map fun j => zs (nm9 s z j))), .dat (.tup ((va s z t 0).map (Th.D A))), .dat (.tup ((va s z t 1).map (Th.D A))), .dat (.lst ((prs9 s z).map prD)), .dat (zi t), .dat (.tup ((va s z t 2).map (Th.D A))), .dat (.tup ((va s z t 3).map (Th.D A))), c13, .dat (.lst [.tup ((qb s z t 0).map (Th.D A)), .tup ((qb s z t 1).map (Th.D A)), .tup ((qb s z t 2).map (Th.D A)), .tup ((qb s z t 3).map (Th.D A))]), .dat (prD (qr s z t)), .dat (zi p), .own (.lst [(pt9 s z t p (.t (qb s z t p)) 0).D A, (pt9 s z t p (.t (qb s z t p)) 1).D A, (pt9 s z t p (.t (qb s z t p)) 2).D A, (pt9 s z t p (.t (qb s z t p)) 3).D A]), c18, c19, .no, .no, .no]) ?_ fun r hr => ?_
   ·walk_at "w"
    rw [zbd hp]
    walk_at "w"
    refine ⟨⟨by omega, by omega, by decide⟩, trivial, ?_⟩
    rw [Int.toNat_natCast, set_pt (A := A) (s := s) (z := z) (t := t) (X := .t (qb s z t p)) (x := .tup ((qb s z t p).map (Th.D A))) hp rfl]
   subst hr
   refine jd (Q1 := fun r => r = [.dat (.ro (ns.map zi)), .dat (zs "abcdefghijklmnopqrstuvwxyz"), .dat (zi i), dw m, .dat (zi z), .dat (zi s), .dat (.lst ((List.range 11).map fun j => zs (nm9 s z j))), .dat (.tup ((va s z t 0).map (Th.D A))), .dat (.tup ((va s z t 1).map (Th.D A))), .dat (.lst ((prs9 s z).map prD)), .dat (zi t), .dat (.tup ((va s z t 2).map (Th.D A))), .dat (.tup ((va s z t 3).map (Th.D A))), c13, .dat (.lst [.tup ((qb s z t 0).map (Th.D A)), .tup ((qb s z t 1).map (Th.D A)), .tup ((qb s z t 2).map (Th.D A)), .tup ((qb s z t 3).map (Th.D A))]), .dat (prD (qr s z t)), .dat (zi p), .own (.lst [(pt9 s z t p (.t (qb s z t p)) 0).D A, (pt9 s z t p (.t (qb s z t p)) 1).D A, (pt9 s z t p (.t (qb s z t p)) 2).D A, (pt9 s z t p (.t (qb s z t p)) 3).D A]), .dat (zs (wrd9 p)), c19, .no, .no, .no]) ?_ fun r hr => ?_
   ·walk_at "w"
    rw [wrd_at hp]
    exact ⟨ja (by decide), by decide, trivial, rfl⟩
   subst hr
   refine jd (Q1 := fun r => r = [.dat (.ro (ns.map zi)), .dat (zs "abcdefghijklmnopqrstuvwxyz"), .dat (zi i), dw m, .dat (zi z), .dat (zi s), .dat (.lst ((List.range 11).map fun j => zs (nm9 s z j))), .dat (.tup ((va s z t 0).map (Th.D A))), .dat (.tup ((va s z t 1).map (Th.D A))), .dat (.lst ((prs9 s z).map prD)), .dat (zi t), .dat (.tup ((va s z t 2).map (Th.D A))), .dat (.tup ((va s z t 3).map (Th.D A))), c13, .dat (.lst [.tup ((qb s z t 0).map (Th.D A)), .tup ((qb s z t 1).map (Th.D A)), .tup ((qb s z t 2).map (Th.D A)), .tup ((qb s z t 3).map (Th.D A))]), .dat (prD (qr s z t)), .dat (zi p), .own (.lst [(pt9 s z t p (.t (qb s z t p)) 0).D A, (pt9 s z t p (.t (qb s z t p)) 1).D A, (pt9 s z t p (.t (qb s z t p)) 2).D A, (pt9 s z t p (.t (qb s z t p)) 3).D A]), .dat (zs (wrd9 p)), c19, .no, .no, .no]) ?_ fun r hr => ?_
   ·walk_at "w"
    refine ⟨⟨by decide, trivial⟩, at_ok (hpt hfo 0) (hpt hfo 1) (hpt hfo 2) (hpt hfo 3) (.inr rfl) ?_⟩
    rw [due_at hs hz ht hp (due_f hs hz ht _)]
    walk_at "w"
    rw [mst_at hp]
    refine ⟨ja (by decide), ?_⟩
    walk_at "w"
    refine ⟨ja (by decide), ?_⟩
    rw [hne]
    walk_at "w"
    exact ⟨trivial, trivial⟩
   subst hr
   refine jd (Q1 := fun r => ∃ (m : Dw) (a : Nat), a ≤ xal p ∧ r = [.dat (.ro (ns.map zi)), .dat (zs "abcdefghijklmnopqrstuvwxyz"), .dat (zi i), dw m, .dat (zi z), .dat (zi s), .dat (.lst ((List.range 11).map fun j => zs (nm9 s z j))), .dat (.tup ((va s z t 0).map (Th.D A))), .dat (.tup ((va s z t 1).map (Th.D A))), .dat (.lst ((prs9 s z).map prD)), .dat (zi t), .dat (.tup ((va s z t 2).map (Th.D A))), .dat (.tup ((va s z t 3).map (Th.D A))), c13, .dat (.lst [.tup ((qb s z t 0).map (Th.D A)), .tup ((qb s z t 1).map (Th.D A)), .tup ((qb s z t 2).map (Th.D A)), .tup ((qb s z t 3).map (Th.D A))]), .dat (prD (qr s z t)), .dat (zi p), .own (.lst [(pt9 s z t p (.t (qb s z t p)) 0).D A, (pt9 s z t p (.t (qb s z t p)) 1).D A, (pt9 s z t p (.t (qb s z t p)) 2).D A, (pt9 s z t p (.t (qb s z t p)) 3).D A]), .dat (zs (wrd9 p)), .dat (zi a), .no, .no, .no]) ?_ fun r hr => ?_
   ·walk_at "w"
    rw [zbd hp]
    walk_at "w"
    refine ⟨⟨by decide, trivial⟩, kay (by rw [List.length_map]; omega) fun r1 m x0 x1 => ?_⟩
    rw [List.length_map] at x1
    walk_at "w"
    exact ⟨by decide, trivial, m, r1.toNat, by omega, by rw [Int.toNat_of_nonneg x0]⟩
   obtain ⟨m, a, ha, rfl⟩ := hr
   refine jd (Q1 := fun r => r = [.dat (.ro (ns.map zi)), .dat (zs "abcdefghijklmnopqrstuvwxyz"), .dat (zi i), dw m, .dat (zi z), .dat (zi s), .dat (.lst ((List.range 11).map fun j => zs (nm9 s z j))), .dat (.tup ((va s z t 0).map (Th.D A))), .dat (.tup ((va s z t 1).map (Th.D A))), .dat (.lst ((prs9 s z).map prD)), .dat (zi t), .dat (.tup ((va s z t 2).map (Th.D A))), .dat (.tup ((va s z t 3).map (Th.D A))), c13, .dat (.lst [.tup ((qb s z t 0).map (Th.D A)), .tup ((qb s z t 1).map (Th.D A)), .tup ((qb s z t 2).map (Th.D A)), .tup ((qb s z t 3).map (Th.D A))]), .dat (prD (qr s z t)), .dat (zi p), .own (.lst [(pt9 s z t p (.t (qo s z t p a)) 0).D A, (pt9 s z t p (.t (qo s z t p a)) 1).D A, (pt9 s z t p (.t (qo s z t p a)) 2).D A, (pt9 s z t p (.t (qo s z t p a)) 3).D A]), .dat (zs (wrd9 p)), .dat (zi a), .no, .no, .no]) ?_ fun r hr => ?_
   ·walk_at "w"
    rw [zbd hp]
    walk_at "w"
    rw [ka6, show ((a : Int) + 1) = ((a + 1 : Nat) : Int) by omega, cutG_drop, ← List.map_take, ← List.map_drop, Int.toNat_natCast]
    simp only [List.length_append, List.length_map, List.length_take, List.length_drop, List.length_singleton]
    refine ⟨ja (by decide), ja (by omega), ja (by omega), ⟨by omega, hp, by decide⟩, trivial, ?_⟩
    rw [set_pt2 (A := A) (s := s) (z := z) (t := t) (Y := .t (qb s z t p)) (X := .t (qo s z t p a)) hp ?_]
    show _ = D.tup (((qb s z t p).take a ++ [Th.d (.s .non)] ++ (qb s z t p).drop (a + 1)).map (Th.D A))
    rw [List.map_append, List.map_append]
    rfl
   subst hr
   refine jd (Q1 := fun r => r = [.dat (.ro (ns.map zi)), .dat (zs "abcdefghijklmnopqrstuvwxyz"), .dat (zi i), dw m, .dat (zi z), .dat (zi s), .dat (.lst ((List.range 11).map fun j => zs (nm9 s z j))), .dat (.tup ((va s z t 0).map (Th.D A))), .dat (.tup ((va s z t 1).map (Th.D A))), .dat (.lst ((prs9 s z).map prD)), .dat (zi t), .dat (.tup ((va s z t 2).map (Th.D A))), .dat (.tup ((va s z t 3).map (Th.D A))), c13, .dat (.lst [.tup ((qb s z t 0).map (Th.D A)), .tup ((qb s z t 1).map (Th.D A)), .tup ((qb s z t 2).map (Th.D A)), .tup ((qb s z t 3).map (Th.D A))]), .dat (prD (qr s z t)), .dat (zi p), .own (.lst [(pt9 s z t p (.t (qo s z t p a)) 0).D A, (pt9 s z t p (.t (qo s z t p a)) 1).D A, (pt9 s z t p (.t (qo s z t p a)) 2).D A, (pt9 s z t p (.t (qo s z t p a)) 3).D A]), .dat (zs (wrd9 p)), .dat (zi a), .no, .no, .no]) ?_ fun r hr => ?_
   ·walk_at "w"
    have hbo : PtOk (.t (qo s z t p a)) := ⟨by unfold qo; rw [List.length_append, List.length_append, List.length_take, List.length_drop, List.length_singleton]; omega, fun x hx => by
     unfold qo at hx
     rcases List.mem_append.mp hx with hx | hx
     ·rcases List.mem_append.mp hx with hx | hx
      ·exact th_ok hs hz ht x (List.mem_of_mem_take hx)
      ·rw [List.mem_singleton.mp hx]; exact .inl rfl
     ·exact th_ok hs hz ht x (List.mem_of_mem_drop hx)⟩
    refine ⟨⟨by decide, trivial⟩, at_ok (hpt hbo 0) (hpt hbo 1) (hpt hbo 2) (hpt hbo 3) (.inr rfl) ?_⟩
    rw [due_at hs hz ht hp (due_s hs hz ht ha _)]
    walk_at "w"
    refine ⟨ja (by decide), ?_⟩
    rw [hne]
    walk_at "w"
    exact ⟨trivial, trivial⟩
   subst hr
   refine jd (Q1 := fun r => r = [.dat (.ro (ns.map zi)), .dat (zs "abcdefghijklmnopqrstuvwxyz"), .dat (zi i), dw m, .dat (zi z), .dat (zi s), .dat (.lst ((List.range 11).map fun j => zs (nm9 s z j))), .dat (.tup ((va s z t 0).map (Th.D A))), .dat (.tup ((va s z t 1).map (Th.D A))), .dat (.lst ((prs9 s z).map prD)), .dat (zi t), .dat (.tup ((va s z t 2).map (Th.D A))), .dat (.tup ((va s z t 3).map (Th.D A))), c13, .dat (.lst [.tup ((qb s z t 0).map (Th.D A)), .tup ((qb s z t 1).map (Th.D A)), .tup ((qb s z t 2).map (Th.D A)), .tup ((qb s z t 3).map (Th.D A))]), .dat (prD (qr s z t)), .dat (zi p), .own (.lst [(pt9 s z t p (.n (.lst ((qb s z t p).map (Th.D A)))) 0).D A, (pt9 s z t p (.n (.lst ((qb s z t p).map (Th.D A)))) 1).D A, (pt9 s z t p (.n (.lst ((qb s z t p).map (Th.D A)))) 2).D A, (pt9 s z t p (.n (.lst ((qb s z t p).map (Th.D A)))) 3).D A]), .dat (zs (wrd9 p)), .dat (zi a), .no, .no, .no]) ?_ fun r hr => ?_
   ·walk_at "w"
    rw [zbd hp]
    walk_at "w"
    refine ⟨⟨by omega, by omega, by decide⟩, trivial, ?_⟩
    rw [Int.toNat_natCast, set_pt2 (A := A) (s := s) (z := z) (t := t) (Y := .t (qo s z t p a)) (X := .n (.lst ((qb s z t p).map (Th.D A)))) (x := .lst ((qb s z t p).map (Th.D A))) hp rfl]
   subst hr
   walk_at "w"
   have hno : PtOk (.n (.lst ((qb s z t p).map (Th.D A)))) := .inr (.inr (.inr ⟨_, rfl⟩))
   refine ⟨⟨by decide, trivial⟩, at_ok (hpt hno 0) (hpt hno 1) (hpt hno 2) (hpt hno 3) (.inr rfl) ?_⟩
   rw [due_at hs hz ht hp (n := -1) rfl]
   walk_at "w"
   refine ⟨ja (by decide), ?_⟩
   rw [hne]
   walk_at "w"
   exact ⟨_, _, _, _, _, _, _, _, _, _, _, _, _, _, _, _, _, _, rfl⟩
  ·exact hI
 ·obtain ⟨c2, c3, c4, c5, c6, c7, c8, c9, c10, c11, c12, c13, c14, c15, c16, c17, c18, c19, rfl⟩ := hr
  walk_at "w"
end
end LW
theorem PySem.Challenge.cw_wishwords_k09_whole_bounds_of_tables_holds : PySem.Challenge.rw_wishwords_k09_whole_bounds_of_tables.Holds :=
 fin_ LW.law_true
