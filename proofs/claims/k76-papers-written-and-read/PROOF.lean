import PyProof.Rows.All
import KE.DataCmp
import KE.SortData
import KE.SortKeyHeap
import KE.DataEq
import KE.GoesMore
import HandS.More
import HandS.SortKw
import HandS.Keys
import PyProof.ReprRoads
import PyProof.ReprBulk
import KE.KRevSl
import HandS.Small
import HandS.TupAny
import HandS.TupLen
import HandS.Conv
import HandS.Style
import HandS.Wide
import HandS.Text
import HandS.IsInst
import HandS.Codes
import HandS.TupLe
import HandS.Walk
import HandS.Iter
import Wide.All
import OpenK.AllK
import Wide.FinOn
import HandS.ForMost
import HandS.ForExc
import HandS.Lambda
import PyProof.StrOps2
import HandS.RaiseMore
import HandS.SetFor
import HandS.Sort
import KE.KDictList
import PyProof.Rows.TupDisplay
import HandS.ExcIs
import HandS.ExcValue
import KE.KLam
import HandS.Zip
import PyProof.SeqRoads2
import HandS.Dict
import KE.KEqDict
import HandS.Strs
import HandS.Deep
import HandS.NoneIn
import PyProof.SetRoads
import KE.KDictZip
import PyProof.ListNew
import HandS.ExcInit
import HandS.ExcField
import KE.KExcIs
import HandS.ReplaceLit
import KE.KDictPairs
import HandS.SetKeys
import KE.DataMinMax
import PyProof.AutoSeq1
import HandS.TupSets
import HandS.FStr
import HandS.StrMore
import PySem.Challenge.RW_shelfcounts_k76_papers_written_and_read
import KE.KxText
import KE.OsRunLaw
set_option Elab.async false
set_option linter.all false
set_option maxRecDepth 100000
section
namespace Q
open PySem PySem.W PySem.Calls PyProof.Rows
def hdS (i : Nat) : Stmt := PySem.Challenge.pw_shelfcounts_k76_papers_written_and_read.main.body.getD i (.Pass ⟨0, 0, 0, 0⟩)
def hdV : Program := { PySem.Challenge.pw_shelfcounts_k76_papers_written_and_read with main := { PySem.Challenge.pw_shelfcounts_k76_papers_written_and_read.main with body := [hdS 39] } }
def hdL : List Str := (["CountError", "NoText", "SMALL", "LONGEST_names", "is_name", "FIGURES", "LONGEST_reader", "whole_in", "WORDS", "SHORT", "DEEPEST", "need", "signed_in", "piece_in", "step_in", "words_listed", "is_rising", "read_told", "tree_at", "read_tree", "listed", "pair_text", "told_text", "tree_text", "_law_pen", "_law_take", "_law_names", "_law_amount", "_law_told_paper", "_law_listed", "_law_paper_text", "_law_tree", "_law_tree_text"] : List String).map PySem.Str.ofString
local macro_rules | `(tactic| o_headL $H) => `(tactic| assumption)
theorem hdMk (h : PySem.Challenge.rw_shelfcounts_k76_papers_written_and_read.row.Holds) : PySem.Challenge.rw_shelfcounts_k76_papers_written_and_read.row.Holds := by
  k_headL
noncomputable def hdA : List Addr := (hdMk.heap_1 (aWorld 1).params).map (·.1)
def hdB : List Addr → List Addr → Bool
  | [], [] => true
  | a :: l, b :: m => match Nat.beq a b with | true => hdB l m | false => false
  | _, _ => false
theorem hdB_eq : ∀ {l m : List Addr}, hdB l m = true → l = m
  | [], [], _ => rfl
  | [], _ :: _, h => by cases h
  | _ :: _, [], h => by cases h
  | a :: l, b :: m, h => by
    unfold hdB at h
    cases e : Nat.beq a b with
    | false => rw [e] at h; cases h
    | true => rw [e] at h; rw [Nat.eq_of_beq_eq_true e, hdB_eq h]
theorem hdE : ∀ P : Params, hdA = (hdMk.heap_1 P).map (·.1) := fun P => hdB_eq (by kernel_rfl)
def hdX (s : Shared) : Bool := xlAt hdV [] s && recOk (RowW.records (OpenRow.toRowW PySem.Challenge.rw_shelfcounts_k76_papers_written_and_read.row)) s
def hdQ (w : World) (os : OsState) : Prop := (HeadRun.endF (HeadRun.stepQ (HeadRun.denQ HeadRun.tabQ) PySem.Challenge.pw_shelfcounts_k76_papers_written_and_read w) 60000 PySem.Challenge.pw_shelfcounts_k76_papers_written_and_read w os).map (fun s => (HeadRun.looksF PySem.Challenge.pw_shelfcounts_k76_papers_written_and_read (boot_heap w.params) s.abs, HeadRun.seenQ hdV hdL (importedModules PySem.Challenge.pw_shelfcounts_k76_papers_written_and_read.main.body) hdX s.abs, hdA.map (HeadRun.getT s))) = some (true, openGood hdV hdL, (hdMk.heap_1 w.params).map fun x => some x.2)
set_option maxHeartbeats 0 in
theorem hdR0 (w : World) (os : OsState) : hdQ (w.withFollow "special-get-raises" false) os := by unfold hdQ; kernel_rfl
set_option maxHeartbeats 0 in
theorem hdR1 (w : World) (os : OsState) : hdQ (w.withFollow "special-get-raises" true) os := by unfold hdQ; kernel_rfl
theorem hdR (w : World) (os : OsState) : hdQ w os := byRow2 (P := fun w => hdQ w os) "special-get-raises" (fun w => hdR0 w os) (fun w => hdR1 w os) w
theorem hdLeft : LeftO PySem.Challenge.pw_shelfcounts_k76_papers_written_and_read hdV hdL hdX (Hook.obs (kHook hdMk.heap_1 hdA hdE)) (Hook.val (kHook hdMk.heap_1 hdA hdE)) 60000 true := HeadRun.left_oneK (M := 60000) (by kernel_rfl) (by rfl) (fun s => by kernel_rfl) (by rfl) hdR
end Q
open PySem PySem.W PyProof.Rows
end
namespace Q
open PySem PySem.Spec PyProof.Rows L2
inductive T where
  | non | bl (b : Bool) | int (i : Int) | str (x : Str)
  | tup (xs : List T) | con (xs : List T) | lst (o : Bool) (xs : List T)
  | dic (o tk : Bool) (ks vs : List T)
  | ins (o : Bool) (c : Str) (ns : List Str) (vs : List T)
  deriving Inhabited
mutual
def T.fz : T → T
  | .non => .non
  | .bl b => .bl b
  | .int i => .int i
  | .str x => .str x
  | .tup xs => .tup (fzs xs)
  | .con xs => .con (fzs xs)
  | .lst _ xs => .lst false (fzs xs)
  | .dic _ tk ks vs => .dic false tk ks (fzs vs)
  | .ins _ c ns vs => .ins false c ns (fzs vs)
def fzs : List T → List T
  | [] => []
  | t :: ts => t.fz :: fzs ts
end
mutual
def T.fr : T → Bool
  | .non => true
  | .bl _ => true
  | .int _ => true
  | .str _ => true
  | .tup xs => frs xs
  | .con xs => frs xs
  | .lst o xs => !o && frs xs
  | .dic o _ _ vs => !o && frs vs
  | .ins o _ _ vs => !o && frs vs
def frs : List T → Bool
  | [] => true
  | t :: ts => t.fr && frs ts
end
theorem jjg : ∀ ts : List T, frs ts = ts.all T.fr
  | [] => rfl
  | t :: ts => by rw [frs, List.all_cons, jjg ts]
def keyT : Key → T
  | .inl i => .int i
  | .inr x => .str x
abbrev MS := Addr → Prop
def KL (K : PySem.W.Frag) (a : Addr) (vs : List V) : Prop :=
  ∃ (o : Obj) (its : Array Value) (n : Nat), K.lookup a = some o ∧ o.cls = .type "list" ∧ o.dict = none ∧ o.data = .seq its n ∧ its.size ≤ sizeLine ∧ Vals vs its.toList
def KT (K : PySem.W.Frag) (H : Hp) (a : Addr) (vs : List V) : Prop :=
  (∃ (o : Obj) (its : Array Value) (n : Nat), K.lookup a = some o ∧ o.cls = .type "tuple" ∧ o.dict = none ∧ o.data = .seq its n ∧ its.size ≤ sizeLine ∧ Vals vs its.toList) ∨ ∃ o : Obj, H a = some (.frz o (.tup vs)) ∧ o.cls = .type "tuple" ∧ o.dict = none
theorem KT.sq {K : PySem.W.Frag} {H : Hp} {a : Addr} {vs : List V} (h : KT K H a vs) : SqT K H a vs := by
  rcases h with ⟨o, its, n, h1, h2, _, h3⟩ | ⟨o, e, _⟩
  · exact .inr ⟨o, its, n, h1, h2, h3⟩
  · exact .inl (.inr ⟨o, e⟩)
def ExV (cls : Value) (d : Option Addr) (a : Addr) : HO := .ext fun h => ∃ (oe : Obj) (vs : Array Value), h.get? a = some oe ∧ Zc cls d oe ∧ oe.data = .fields vs
mutual
inductive Rep (K : PySem.W.Frag) (H : Hp) (M : MS) : List Addr → V → T → Prop
  | non : Rep K H M [] .non .non
  | bl (b : Bool) : Rep K H M [] (.bl b) (.bl b)
  | int (i : Int) : Rep K H M [] (.int i) (.int i)
  | str (x : Str) : Rep K H M [] (.str x) (.str x)
  | tup {a : Addr} {vs : List V} {fp : List Addr} {ts : List T} : H a = some (.tup vs) → Reps K H M fp vs ts → Rep K H M fp (.ref a) (.tup ts)
  | con {a : Addr} {vs : List V} {fp : List Addr} {ts : List T} : KT K H a vs → Reps K H M fp vs ts → Rep K H M fp (.ref a) (.con ts)
  | lstF {a : Addr} {vs : List V} {fp : List Addr} {ts : List T} : Rd H a (.lst vs) → ¬ M a → Reps K H M fp vs ts → Rep K H M fp (.ref a) (.lst false ts)
  | lstK {a : Addr} {vs : List V} {fp : List Addr} {ts : List T} : KL K a vs → Reps K H M fp vs ts → Rep K H M fp (.ref a) (.lst false ts)
  | lstO {a : Addr} {vs : List V} {fp : List Addr} {ts : List T} : H a = some (.lst vs) → M a → Reps K H M fp vs ts → Rep K H M (a :: fp) (.ref a) (.lst true ts)
  | dKF {a : Addr} {kvs : List (Key × V)} {fp : List Addr} {ts : List T} : Rd H a (.dK kvs) → ¬ M a → Reps K H M fp (kvs.map Prod.snd) ts → Rep K H M fp (.ref a) (.dic false false (kvs.map fun kv => keyT kv.1) ts)
  | dKO {a : Addr} {kvs : List (Key × V)} {fp : List Addr} {ts : List T} : H a = some (.dK kvs) → M a → Reps K H M fp (kvs.map Prod.snd) ts → Rep K H M (a :: fp) (.ref a) (.dic true false (kvs.map fun kv => keyT kv.1) ts)
  | dTF {a : Addr} {kvs : List (List Key × V)} {fp : List Addr} {ts : List T} : H a = some (.dT kvs) → ¬ M a → Reps K H M fp (kvs.map Prod.snd) ts → Rep K H M fp (.ref a) (.dic false true (kvs.map fun kv => .tup (kv.1.map keyT)) ts)
  | dTO {a : Addr} {kvs : List (List Key × V)} {fp : List Addr} {ts : List T} : H a = some (.dT kvs) → M a → Reps K H M fp (kvs.map Prod.snd) ts → Rep K H M (a :: fp) (.ref a) (.dic true true (kvs.map fun kv => .tup (kv.1.map keyT)) ts)
  | exn {a C : Addr} {c : Str} : PySem.W.nsIn K mainGlobals c = some (some (.ref C)) → H a = some (ExV (.ref C) none a) → ¬ M a → Rep K H M [] (.ref a) (.ins false c [] [])
  | exl {a C dd : Addr} {c : Str} {n : Int} : PySem.W.nsIn K mainGlobals c = some (some (.ref C)) → H a = some (ExV (.ref C) (some dd) a) → ¬ M a → H dd = some (.xd [(("line" : Str), V.int n)]) → Rep K H M [] (.ref a) (.ins false c ["line"] [.int n])
  | insF {a C dx : Addr} {c m1 m2 : Str} {fs : List (Str × V)} {fp : List Addr} {ts : List T} : PySem.W.nsIn K mainGlobals c = some (some (.ref C)) → H a = some (.ins C dx fs) → ¬ M a → Reps K H M fp (fs.map Prod.snd) ts → Rep K H M fp (.ref a) (.ins false c (m1 :: m2 :: fs.map Prod.fst) (.non :: .non :: ts))
  | insO {a C dx : Addr} {c m1 m2 : Str} {fs : List (Str × V)} {fp : List Addr} {ts : List T} : PySem.W.nsIn K mainGlobals c = some (some (.ref C)) → H a = some (.ins C dx fs) → M a → Reps K H M fp (fs.map Prod.snd) ts → Rep K H M (a :: fp) (.ref a) (.ins true c (m1 :: m2 :: fs.map Prod.fst) (.non :: .non :: ts))
  | hol {a : Addr} {z : Int} {y : T} : z.toNat = a → Rep K H M [] (.ref a) (.ins false ("" : Str) [] [.int z, y])
  | mrk {a : Addr} {j z : Int} {fp : List Addr} {t : T} : z.toNat = a → Rep K H M fp (.ref a) t → Rep K H M fp (.ref a) (.ins false ("" : Str) [] [.int j, .int z, t])
inductive Reps (K : PySem.W.Frag) (H : Hp) (M : MS) : List Addr → List V → List T → Prop
  | nil : Reps K H M [] [] []
  | cons {fp fq : List Addr} {v : V} {t : T} {vs : List V} {ts : List T} : Rep K H M fp v t → Reps K H M fq vs ts → Reps K H M (fp ++ fq) (v :: vs) (t :: ts)
end
section
variable {K : PySem.W.Frag} {H H' : Hp} {M M' : MS}
def Own (H : Hp) (M : MS) (F : List Addr) : Prop := ∀ a ∈ F, M a ∧ Mut (H a)
theorem Own.app {F G : List Addr} (a : Own H M F) (b : Own H M G) : Own H M (F ++ G) := fun x hx => (List.mem_append.mp hx).elim (a x) (b x)
theorem Own.left {F G : List Addr} (a : Own H M (F ++ G)) : Own H M F := fun x hx => a x (List.mem_append_left _ hx)
theorem Own.right {F G : List Addr} (a : Own H M (F ++ G)) : Own H M G := fun x hx => a x (List.mem_append_right _ hx)
mutual
theorem Rep.own : ∀ {fp : List Addr} {v : V} {t : T}, Rep K H M fp v t → Own H M fp
  | _, _, _, .non => fun _ h => nomatch h
  | _, _, _, .bl _ => fun _ h => nomatch h
  | _, _, _, .int _ => fun _ h => nomatch h
  | _, _, _, .str _ => fun _ h => nomatch h
  | _, _, _, .tup _ r => r.own
  | _, _, _, .con _ r => r.own
  | _, _, _, .lstF _ _ r => r.own
  | _, _, _, .lstK _ r => r.own
  | _, _, _, .lstO e m r => fun a ha => (List.mem_cons.mp ha).elim (fun q => by subst q; exact ⟨m, by rw [e]; trivial⟩) (r.own a)
  | _, _, _, .dKF _ _ r => r.own
  | _, _, _, .dKO e m r => fun a ha => (List.mem_cons.mp ha).elim (fun q => by subst q; exact ⟨m, by rw [e]; trivial⟩) (r.own a)
  | _, _, _, .dTF _ _ r => r.own
  | _, _, _, .dTO e m r => fun a ha => (List.mem_cons.mp ha).elim (fun q => by subst q; exact ⟨m, by rw [e]; trivial⟩) (r.own a)
  | _, _, _, .exn _ _ _ => fun _ h => nomatch h
  | _, _, _, .exl _ _ _ _ => fun _ h => nomatch h
  | _, _, _, .insF _ _ _ r => r.own
  | _, _, _, .insO _ e m r => fun a ha => (List.mem_cons.mp ha).elim (fun q => by subst q; exact ⟨m, by rw [e]; trivial⟩) (r.own a)
  | _, _, _, .hol _ => fun _ h => nomatch h
  | _, _, _, .mrk _ r => r.own
theorem Reps.own : ∀ {fp : List Addr} {vs : List V} {ts : List T}, Reps K H M fp vs ts → Own H M fp
  | _, _, _, .nil => fun _ h => nomatch h
  | _, _, _, .cons r rs => r.own.app rs.own
end
def jjx : List Str := ["_law_house", "_law_with_look", "_law_pieces_due", "_law_ties_due", "_law_put_right", "_law_left_right", "_law_no_name", "_law_told_by", "_law_odd_ones", "_law_thens", "_law_row_right", "_law_entry_right", "law", "_law_told_right", "_law_tree_right", "_law_said", "_law_plain", "_law_now_right"]
def TabOfC (K : PySem.W.Frag) (x : Str) (c P : Addr) : Prop := ∃ (f : Addr) (o : Obj) (fd : FuncData) (e : Value) (dd : Option Addr) (vs : Array Value) (sl : Array (Option Value)),
  PySem.W.nsIn K mainGlobals x = some (some (.ref f)) ∧ K.lookup f = some o ∧ o.data = .func fd ∧ fd.code = .ref c ∧ K.lookup c = some ⟨e, dd, .fields vs, sl⟩ ∧ vs[11]? = some (.ref P)
def TabOf (K : PySem.W.Frag) (x : Str) (P : Addr) : Prop := ∃ c, TabOfC K x c P
def LamTab (K : PySem.W.Frag) (P : Addr) (q : Str) : Prop := ∃ x ∈ jjx, TabOf K x P ∧ q = x ++ (".<locals>." : Str) ++ ("<lambda>" : Str) ∧ K.lookup P = none ∧ ∀ y ∈ jjx, TabOf K y P → y = x
def TabQ (H : Hp) (M : MS) (P : Addr) (q : Str) : Prop := ∃ ps : Array Value, H P = some (.tbl ps) ∧ TriplesOk ps.toList ∧ ¬ M P ∧ ∀ (pos : Pos) (cv : Value), codeAmong pos ps.toList = some cv → ∃ c, cv = .ref c ∧ H c = some (LamX.CodeO c q) ∧ ¬ M c
class Tbl where
  L : Addr → Str → Prop
  fn : ∀ P q q', L P q → L P q' → q = q'
instance (priority := low) tbl0 : Tbl := ⟨fun _ _ => False, fun _ _ _ h => h.elim⟩
variable [tbI : Tbl]
include tbI
def LB (mg : Str → Option Value) (base : Heap) : Prop := ∀ P q, Tbl.L P q → base.BuiltinsAt mg P ∧ mainGlobals ≠ P
def jkq (K : PySem.W.Frag) (H : Hp) (M : MS) : Prop := ∀ P q, Tbl.L P q → TabQ H M P q
def ntb : HO → Bool
  | .tbl _ => false
  | _ => true
theorem TabQ.less {H : Hp} {M M' : MS} {P : Addr} {q : Str} (t : TabQ H M P q) (h : ∀ a, M' a → M a) : TabQ H M' P q := by
  obtain ⟨ps, h1, h2, h3, h4⟩ := t
  refine ⟨ps, h1, h2, fun z => h3 (h _ z), fun pos cv hc => ?_⟩
  obtain ⟨c, e1, e2, e3⟩ := h4 pos cv hc
  exact ⟨c, e1, e2, fun z => e3 (h _ z)⟩
theorem TabQ.to {H H' : Hp} {M M' : MS} {P : Addr} {q : Str} (t : TabQ H M P q) (k : ∀ a o, H a = some o → ¬ M a → H' a = some o ∧ ¬ M' a) : TabQ H' M' P q := by
  obtain ⟨ps, h1, h2, h3, h4⟩ := t
  obtain ⟨k1, k2⟩ := k _ _ h1 h3
  refine ⟨ps, k1, h2, k2, fun pos cv hc => ?_⟩
  obtain ⟨c, e1, e2, e3⟩ := h4 pos cv hc
  obtain ⟨k3, k4⟩ := k _ _ e2 e3
  exact ⟨c, e1, k3, k4⟩
structure Frm (H : Hp) (M : MS) (F : List Addr) (H' : Hp) (M' : MS) : Prop where
  keep : ∀ a o, H a = some o → a ∉ F → (nt : ntb o = true := by rfl) → H' a = some o
  own : ∀ a o, H a = some o → a ∉ F → (M' a ↔ M a)
  there : ∀ a o, H a = some o → ∃ o', H' a = some o'
  tabs : ∀ P q, Tbl.L P q → TabQ H M P q → TabQ H' M' P q
theorem Frm.refl {F : List Addr} : Frm H M F H M := ⟨fun _ _ e _ _ => e, fun _ _ _ _ => Iff.rfl, fun _ o e => ⟨o, e⟩, fun _ _ _ t => t⟩
theorem Frm.of {F : List Addr} (hF : ∀ a ∈ F, M a) (keep : ∀ a o, H a = some o → a ∉ F → H' a = some o) (own : ∀ a o, H a = some o → a ∉ F → (M' a ↔ M a)) (there : ∀ a o, H a = some o → ∃ o', H' a = some o') : Frm H M F H' M' :=
  ⟨fun a o e n _ => keep a o e n, own, there, fun P q _ t => t.to fun a o e m => ⟨keep a o e fun z => m (hF a z), fun z => m ((own a o e fun z => m (hF a z)).mp z)⟩⟩
theorem jkr {a : Addr} {vs : List V} (m : Mut (H a)) (r : Rd H a (.tup vs)) : False := by
  rcases r with e | ⟨o, e⟩ <;> rw [e] at m <;> exact m
theorem rd_out {F : List Addr} {a : Addr} {u : HO} (f : Frm H M F H' M') (r : Rd H a u) (h : a ∉ F) (nt : ntb u = true := by rfl) : Rd H' a u := by
  rcases r with e | ⟨o, e⟩
  · exact .inl (f.keep a _ e h nt)
  · exact .inr ⟨o, f.keep a _ e h⟩
theorem rd_own {F : List Addr} {a : Addr} {u : HO} (f : Frm H M F H' M') (r : Rd H a u) (h : a ∉ F) : M' a ↔ M a := by
  rcases r with e | ⟨o, e⟩
  · exact f.own a _ e h
  · exact f.own a _ e h
theorem KT.frm {F : List Addr} (f : Frm H M F H' M') (oF : Own H M F) {a : Addr} {vs : List V} (h : KT K H a vs) : KT K H' a vs :=
  h.imp id fun ⟨o, z, q⟩ => ⟨o, f.keep a _ z (fun ha => by have y := (oF a ha).2; rw [z] at y; exact y), q⟩
mutual
theorem Rep.frm {F : List Addr} (f : Frm H M F H' M') (oF : Own H M F) : ∀ {fp : List Addr} {v : V} {t : T}, Rep K H M fp v t → (∀ a ∈ fp, a ∉ F) → Rep K H' M' fp v t
  | _, _, _, .non, _ => .non
  | _, _, _, .bl b, _ => .bl b
  | _, _, _, .int i, _ => .int i
  | _, _, _, .str x, _ => .str x
  | _, _, _, .tup (a := a) e r, d => .tup (f.keep a _ e fun ha => jkr (oF a ha).2 (.inl e)) (r.frm f oF d)
  | _, _, _, .con (a := a) e r, d => .con (e.frm f oF) (r.frm f oF d)
  | _, _, _, .lstF (a := a) e m r, d => .lstF (rd_out f e fun ha => m (oF a ha).1) (fun q => m ((rd_own f e fun ha => m (oF a ha).1).mp q)) (r.frm f oF d)
  | _, _, _, .lstK e r, d => .lstK e (r.frm f oF d)
  | _, _, _, .lstO (a := a) e m r, d => .lstO (f.keep a _ e (d a List.mem_cons_self)) ((f.own a _ e (d a List.mem_cons_self)).mpr m) (r.frm f oF fun b hb => d b (List.mem_cons_of_mem _ hb))
  | _, _, _, .dKF (a := a) e m r, d => .dKF (rd_out f e fun ha => m (oF a ha).1) (fun q => m ((rd_own f e fun ha => m (oF a ha).1).mp q)) (r.frm f oF d)
  | _, _, _, .exn (a := a) g e m, d => .exn g (f.keep a _ e fun ha => m (oF a ha).1) (fun q => m ((f.own a _ e fun ha => m (oF a ha).1).mp q))
  | _, _, _, .exl (a := a) (dd := dd) g e m x, d => .exl g (f.keep a _ e fun ha => m (oF a ha).1) (fun q => m ((f.own a _ e fun ha => m (oF a ha).1).mp q)) (f.keep dd _ x fun ha => by have z := (oF dd ha).2; rw [x] at z; exact z)
  | _, _, _, .insF (a := a) g e m r, d => .insF g (f.keep a _ e fun ha => m (oF a ha).1) (fun q => m ((f.own a _ e fun ha => m (oF a ha).1).mp q)) (r.frm f oF d)
  | _, _, _, .insO (a := a) g e m r, d => .insO g (f.keep a _ e (d a List.mem_cons_self)) ((f.own a _ e (d a List.mem_cons_self)).mpr m) (r.frm f oF fun b hb => d b (List.mem_cons_of_mem _ hb))
  | _, _, _, .hol e, _ => .hol e
  | _, _, _, .mrk e r, d => .mrk e (r.frm f oF d)
  | _, _, _, .dKO (a := a) e m r, d => .dKO (f.keep a _ e (d a List.mem_cons_self)) ((f.own a _ e (d a List.mem_cons_self)).mpr m) (r.frm f oF fun b hb => d b (List.mem_cons_of_mem _ hb))
  | _, _, _, .dTF (a := a) e m r, d => .dTF (f.keep a _ e fun ha => m (oF a ha).1) (fun q => m ((f.own a _ e fun ha => m (oF a ha).1).mp q)) (r.frm f oF d)
  | _, _, _, .dTO (a := a) e m r, d => .dTO (f.keep a _ e (d a List.mem_cons_self)) ((f.own a _ e (d a List.mem_cons_self)).mpr m) (r.frm f oF fun b hb => d b (List.mem_cons_of_mem _ hb))
theorem Reps.frm {F : List Addr} (f : Frm H M F H' M') (oF : Own H M F) : ∀ {fp : List Addr} {vs : List V} {ts : List T}, Reps K H M fp vs ts → (∀ a ∈ fp, a ∉ F) → Reps K H' M' fp vs ts
  | _, _, _, .nil, _ => .nil
  | _, _, _, .cons r rs, d => .cons (r.frm f oF fun a ha => d a (List.mem_append_left _ ha)) (rs.frm f oF fun a ha => d a (List.mem_append_right _ ha))
end
mutual
theorem Rep.freeze (h1 : ∀ a, M' a → M a) : ∀ {fp : List Addr} {v : V} {t : T}, Rep K H M fp v t → (∀ a ∈ fp, ¬ M' a) → Rep K H M' [] v t.fz
  | _, _, _, .non, _ => .non
  | _, _, _, .bl b, _ => .bl b
  | _, _, _, .int i, _ => .int i
  | _, _, _, .str x, _ => .str x
  | _, _, _, .tup e r, d => .tup e (r.freeze h1 d)
  | _, _, _, .con e r, d => .con e (r.freeze h1 d)
  | _, _, _, .lstF e m r, d => .lstF e (fun q => m (h1 _ q)) (r.freeze h1 d)
  | _, _, _, .lstK e r, d => .lstK e (r.freeze h1 d)
  | _, _, _, .lstO e m r, d => .lstF (.inl e) (d _ List.mem_cons_self) (r.freeze h1 fun a ha => d a (List.mem_cons_of_mem _ ha))
  | _, _, _, .dKF e m r, d => .dKF e (fun q => m (h1 _ q)) (r.freeze h1 d)
  | _, _, _, .exn g e m, d => .exn g e (fun q => m (h1 _ q))
  | _, _, _, .exl g e m x, d => .exl g e (fun q => m (h1 _ q)) x
  | _, _, _, .insF g e m r, d => .insF g e (fun q => m (h1 _ q)) (r.freeze h1 d)
  | _, _, _, .insO g e m r, d => .insF g e (d _ List.mem_cons_self) (r.freeze h1 fun a ha => d a (List.mem_cons_of_mem _ ha))
  | _, _, _, .hol e, _ => .hol e
  | _, _, _, .mrk e r, d => .mrk e (r.freeze h1 d)
  | _, _, _, .dKO e m r, d => .dKF (.inl e) (d _ List.mem_cons_self) (r.freeze h1 fun a ha => d a (List.mem_cons_of_mem _ ha))
  | _, _, _, .dTF e m r, d => .dTF e (fun q => m (h1 _ q)) (r.freeze h1 d)
  | _, _, _, .dTO e m r, d => .dTF e (d _ List.mem_cons_self) (r.freeze h1 fun a ha => d a (List.mem_cons_of_mem _ ha))
theorem Reps.freeze (h1 : ∀ a, M' a → M a) : ∀ {fp : List Addr} {vs : List V} {ts : List T}, Reps K H M fp vs ts → (∀ a ∈ fp, ¬ M' a) → Reps K H M' [] vs (fzs ts)
  | _, _, _, .nil, _ => .nil
  | _, _, _, .cons r rs, d => .cons (fp := []) (r.freeze h1 fun a ha => d a (List.mem_append_left _ ha)) (rs.freeze h1 fun a ha => d a (List.mem_append_right _ ha))
end
mutual
theorem Rep.less (h1 : ∀ a, M' a → M a) : ∀ {fp : List Addr} {v : V} {t : T}, Rep K H M fp v t → (∀ a ∈ fp, M' a) → Rep K H M' fp v t
  | _, _, _, .non, _ => .non
  | _, _, _, .bl b, _ => .bl b
  | _, _, _, .int i, _ => .int i
  | _, _, _, .str x, _ => .str x
  | _, _, _, .tup e r, d => .tup e (r.less h1 d)
  | _, _, _, .con e r, d => .con e (r.less h1 d)
  | _, _, _, .lstF e m r, d => .lstF e (fun q => m (h1 _ q)) (r.less h1 d)
  | _, _, _, .lstK e r, d => .lstK e (r.less h1 d)
  | _, _, _, .lstO e m r, d => .lstO e (d _ List.mem_cons_self) (r.less h1 fun a ha => d a (List.mem_cons_of_mem _ ha))
  | _, _, _, .dKF e m r, d => .dKF e (fun q => m (h1 _ q)) (r.less h1 d)
  | _, _, _, .exn g e m, d => .exn g e (fun q => m (h1 _ q))
  | _, _, _, .exl g e m x, d => .exl g e (fun q => m (h1 _ q)) x
  | _, _, _, .insF g e m r, d => .insF g e (fun q => m (h1 _ q)) (r.less h1 d)
  | _, _, _, .insO g e m r, d => .insO g e (d _ List.mem_cons_self) (r.less h1 fun a ha => d a (List.mem_cons_of_mem _ ha))
  | _, _, _, .hol e, _ => .hol e
  | _, _, _, .mrk e r, d => .mrk e (r.less h1 d)
  | _, _, _, .dKO e m r, d => .dKO e (d _ List.mem_cons_self) (r.less h1 fun a ha => d a (List.mem_cons_of_mem _ ha))
  | _, _, _, .dTF e m r, d => .dTF e (fun q => m (h1 _ q)) (r.less h1 d)
  | _, _, _, .dTO e m r, d => .dTO e (d _ List.mem_cons_self) (r.less h1 fun a ha => d a (List.mem_cons_of_mem _ ha))
theorem Reps.less (h1 : ∀ a, M' a → M a) : ∀ {fp : List Addr} {vs : List V} {ts : List T}, Reps K H M fp vs ts → (∀ a ∈ fp, M' a) → Reps K H M' fp vs ts
  | _, _, _, .nil, _ => .nil
  | _, _, _, .cons r rs, d => .cons (r.less h1 fun a ha => d a (List.mem_append_left _ ha)) (rs.less h1 fun a ha => d a (List.mem_append_right _ ha))
end
mutual
theorem Rep.fpNil : ∀ {fp : List Addr} {v : V} {t : T}, Rep K H M fp v t → t.fr = true → fp = []
  | _, _, _, .non, _ => rfl
  | _, _, _, .bl _, _ => rfl
  | _, _, _, .int _, _ => rfl
  | _, _, _, .str _, _ => rfl
  | _, _, _, .tup _ r, h => r.fpNil (by simpa [T.fr] using h)
  | _, _, _, .con _ r, h => r.fpNil (by simpa [T.fr] using h)
  | _, _, _, .lstF _ _ r, h => r.fpNil (by simpa [T.fr] using h)
  | _, _, _, .lstK _ r, h => r.fpNil (by simpa [T.fr] using h)
  | _, _, _, .lstO _ _ _, h => by simp [T.fr] at h
  | _, _, _, .dKF _ _ r, h => r.fpNil (by simpa [T.fr] using h)
  | _, _, _, .dKO _ _ _, h => by simp [T.fr] at h
  | _, _, _, .dTF _ _ r, h => r.fpNil (by simpa [T.fr] using h)
  | _, _, _, .dTO _ _ _, h => by simp [T.fr] at h
  | _, _, _, .exn _ _ _, _ => rfl
  | _, _, _, .exl _ _ _ _, _ => rfl
  | _, _, _, .insF _ _ _ r, h => r.fpNil (by simpa [T.fr, frs] using h)
  | _, _, _, .insO _ _ _ _, h => by simp [T.fr] at h
  | _, _, _, .hol _, _ => rfl
  | _, _, _, .mrk _ r, h => r.fpNil (by simpa [T.fr, frs] using h)
theorem Reps.fpNil : ∀ {fp : List Addr} {vs : List V} {ts : List T}, Reps K H M fp vs ts → frs ts = true → fp = []
  | _, _, _, .nil, _ => rfl
  | _, _, _, .cons r rs, h => by
    rw [frs, Bool.and_eq_true] at h
    rw [r.fpNil h.1, rs.fpNil h.2]
    rfl
end
theorem Reps.length : ∀ {fp : List Addr} {vs : List V} {ts : List T}, Reps K H M fp vs ts → vs.length = ts.length
  | _, _, _, .nil => rfl
  | _, _, _, .cons _ rs => by simp [rs.length]
theorem Reps.app : ∀ {fp fq : List Addr} {vs ws : List V} {ts us : List T}, Reps K H M fp vs ts → Reps K H M fq ws us → Reps K H M (fp ++ fq) (vs ++ ws) (ts ++ us)
  | _, _, _, _, _, _, .nil, s => s
  | _, _, _, _, _, _, .cons r rs, s => by
    rw [List.append_assoc]
    exact .cons r (rs.app s)
theorem Reps.one {fp : List Addr} {v : V} {t : T} (r : Rep K H M fp v t) : Reps K H M fp [v] [t] := by
  have := Reps.cons r Reps.nil
  rwa [List.append_nil] at this
theorem Reps.get : ∀ {fp : List Addr} {vs : List V} {ts : List T} {i : Nat} {t : T}, Reps K H M fp vs ts → ts[i]? = some t → ∃ v fq, vs[i]? = some v ∧ Rep K H M fq v t ∧ ∀ a ∈ fq, a ∈ fp
  | _, _, _, _, _, .nil, e => by simp at e
  | _, _, _, 0, t, .cons r rs, e => by
    simp at e; subst e
    exact ⟨_, _, rfl, r, fun a ha => List.mem_append_left _ ha⟩
  | _, _, _, i + 1, t, .cons r rs, e => by
    obtain ⟨v, fq, h1, h2, h3⟩ := rs.get (i := i) (by simpa using e)
    exact ⟨v, fq, by simpa using h1, h2, fun a ha => List.mem_append_right _ (h3 a ha)⟩
theorem Reps.getV {fp : List Addr} {vs : List V} {ts : List T} {i : Nat} {v : V} (r : Reps K H M fp vs ts) (e : vs[i]? = some v) : ∃ t, ts[i]? = some t := by
  obtain ⟨h, _⟩ := List.getElem?_eq_some_iff.mp e
  exact ⟨ts[i]'(by rw [← r.length]; exact h), by simp⟩
end
variable [tbI : Tbl]
include tbI
abbrev Env := List (Option T)
abbrev Sg := List (Option V)
inductive ERep (K : PySem.W.Frag) (H : Hp) (M : MS) : List Addr → Sg → Env → Prop
  | nil : jkq K H M → ERep K H M [] [] []
  | none {F : List Addr} {x : Option V} {σ : Sg} {ρ : Env} : ERep K H M F σ ρ → ERep K H M F (x :: σ) (none :: ρ)
  | some {fp F : List Addr} {v : V} {t : T} {σ : Sg} {ρ : Env} : Rep K H M fp v t → ERep K H M F σ ρ → ERep K H M (fp ++ F) (some v :: σ) (some t :: ρ)
section
variable {K : PySem.W.Frag} {H H' : Hp} {M M' : MS}
theorem ERep.own : ∀ {F : List Addr} {σ : Sg} {ρ : Env}, ERep K H M F σ ρ → Own H M F
  | _, _, _, .nil _ => fun _ h => nomatch h
  | _, _, _, .none r => r.own
  | _, _, _, .some r rs => r.own.app rs.own
theorem ERep.frm {F : List Addr} (f : Frm H M F H' M') (oF : Own H M F) : ∀ {G : List Addr} {σ : Sg} {ρ : Env}, ERep K H M G σ ρ → (∀ a ∈ G, a ∉ F) → ERep K H' M' G σ ρ
  | _, _, _, .nil t, _ => .nil fun P q l => f.tabs P q l (t P q l)
  | _, _, _, .none r, d => .none (r.frm f oF d)
  | _, _, _, .some r rs, d => .some (r.frm f oF fun a ha => d a (List.mem_append_left _ ha)) (rs.frm f oF fun a ha => d a (List.mem_append_right _ ha))
theorem ERep.less (h1 : ∀ a, M' a → M a) : ∀ {G : List Addr} {σ : Sg} {ρ : Env}, ERep K H M G σ ρ → (∀ a ∈ G, M' a) → ERep K H M' G σ ρ
  | _, _, _, .nil t, _ => .nil fun P q l => (t P q l).less h1
  | _, _, _, .none r, d => .none (r.less h1 d)
  | _, _, _, .some r rs, d => .some (r.less h1 fun a ha => d a (List.mem_append_left _ ha)) (rs.less h1 fun a ha => d a (List.mem_append_right _ ha))
theorem ERep.tabs : ∀ {F : List Addr} {σ : Sg} {ρ : Env}, ERep K H M F σ ρ → jkq K H M
  | _, _, _, .nil t => t
  | _, _, _, .none r => r.tabs
  | _, _, _, .some _ r => r.tabs
theorem ERep.length : ∀ {F : List Addr} {σ : Sg} {ρ : Env}, ERep K H M F σ ρ → σ.length = ρ.length
  | _, _, _, .nil _ => rfl
  | _, _, _, .none r => by simp [r.length]
  | _, _, _, .some _ r => by simp [r.length]
theorem ERep.take : ∀ {F : List Addr} {σ : Sg} {ρ : Env} {i : Nat} {t : T}, ERep K H M F σ ρ → ρ[i]? = Option.some (Option.some t) →
    ∃ v fp G, σ[i]? = Option.some (Option.some v) ∧ Rep K H M fp v t ∧ ERep K H M G σ (ρ.set i Option.none) ∧ F.Perm (fp ++ G)
  | _, _, _, _, _, .nil _, e => by simp at e
  | _, _, _, 0, t, .none r, e => by simp at e
  | _, _, _, i + 1, t, .none r, e => by
    obtain ⟨v, fp, G, h1, h2, h3, h4⟩ := r.take (i := i) (by simpa using e)
    exact ⟨v, fp, G, by simpa using h1, h2, .none h3, h4⟩
  | _, _, _, 0, t, .some (fp := fp) (F := F) r rs, e => by
    simp at e; subst e
    exact ⟨_, fp, F, rfl, r, .none rs, .refl _⟩
  | _, _, _, i + 1, t, .some (fp := fp) r rs, e => by
    obtain ⟨v, fq, G, h1, h2, h3, h4⟩ := rs.take (i := i) (by simpa using e)
    refine ⟨v, fq, fp ++ G, by simpa using h1, h2, .some r h3, ?_⟩
    refine (List.Perm.append_left fp h4).trans ?_
    rw [← List.append_assoc, ← List.append_assoc]
    exact List.perm_append_comm.append_right G
theorem ERep.put : ∀ {G : List Addr} {σ : Sg} {ρ : Env} {i : Nat} {v : V} {t : T} {fp : List Addr}, ERep K H M G σ ρ → ρ[i]? = Option.some Option.none → Rep K H M fp v t →
    ∃ F, ERep K H M F (σ.set i (Option.some v)) (ρ.set i (Option.some t)) ∧ F.Perm (fp ++ G)
  | _, _, _, _, _, _, _, .nil _, e, _ => by simp at e
  | G, _, _, 0, v, t, fp, .none r, e, q => ⟨fp ++ G, .some q r, .refl _⟩
  | _, _, _, i + 1, v, t, fp, .none r, e, q => by
    obtain ⟨F, h1, h2⟩ := r.put (i := i) (by simpa using e) q
    exact ⟨F, .none h1, h2⟩
  | _, _, _, 0, _, _, _, .some r rs, e, q => by simp at e
  | _, _, _, i + 1, v, t, fp, .some (fp := fq) (F := G) r rs, e, q => by
    obtain ⟨F, h1, h2⟩ := rs.put (i := i) (by simpa using e) q
    refine ⟨fq ++ F, .some r h1, ?_⟩
    refine (List.Perm.append_left fq h2).trans ?_
    rw [← List.append_assoc, ← List.append_assoc]
    exact List.perm_append_comm.append_right G
theorem ERep.drop : ∀ {F : List Addr} {σ : Sg} {ρ : Env} (i : Nat) (x : Option V), ERep K H M F σ ρ → ∃ G, ERep K H M G (σ.set i x) (ρ.set i Option.none) ∧ List.Sublist G F
  | _, _, _, _, _, .nil t => ⟨[], .nil t, .refl _⟩
  | F, _, _, 0, x, .none r => ⟨F, .none r, .refl _⟩
  | _, _, _, i + 1, x, .none r => by
    obtain ⟨G, h1, h2⟩ := r.drop i x
    exact ⟨G, .none h1, h2⟩
  | _, _, _, 0, x, .some (fp := fp) (F := F) r rs => ⟨F, .none rs, List.sublist_append_right _ _⟩
  | _, _, _, i + 1, x, .some (fp := fp) r rs => by
    obtain ⟨G, h1, h2⟩ := rs.drop i x
    exact ⟨fp ++ G, .some r h1, List.Sublist.append (.refl _) h2⟩
theorem ERep.get {F : List Addr} {σ : Sg} {ρ : Env} {i : Nat} {t : T} (r : ERep K H M F σ ρ) (e : ρ[i]? = Option.some (Option.some t)) : ∃ v fp, σ[i]? = Option.some (Option.some v) ∧ Rep K H M fp v t ∧ ∀ a ∈ fp, a ∈ F := by
  obtain ⟨v, fp, G, h1, h2, _, h4⟩ := r.take e
  exact ⟨v, fp, h1, h2, fun a ha => h4.mem_iff.mpr (List.mem_append_left _ ha)⟩
end
end Q
namespace Q
open PySem PySem.Spec PyProof.Rows L2
variable [tbI : Tbl]
include tbI
structure Ex where
  c : Str
  line : Option Int := none
inductive R (α : Type) where
  | ok (a : α) | ex (x : Ex) (ρ : Env) | bad
def R.bind {α β : Type} : R α → (α → R β) → R β
  | .ok a, k => k a
  | .ex x ρ, _ => .ex x ρ
  | .bad, _ => .bad
abbrev De := Env → R (T × Env)
abbrev Da := Env → R (List T × Env)
abbrev Db := Env → R (Bool × Env)
abbrev Dr := Env → Option T
abbrev Pins := Nat → Option V
def ExR (mg : Str → Option Value) (H : Hp) (cls : Value) (d : Option Addr) (x : Ex) : Prop :=
  mg x.c = some cls ∧ match x.line with
    | none => d = none
    | some n => ∃ dd, d = some dd ∧ H dd = some (.xd [(("line" : Str), V.int n)])
structure Sta (K : PySem.W.Frag) (pv : Pins) (H : Hp) (M : MS) (F : List Addr) (σ : Sg) (ρ : Env) : Prop where
  rep : ERep K H M F σ ρ
  nd : F.Nodup
  pin : ∀ i v, pv i = some v → σ[i]? = some (some v)
structure Stp (H : Hp) (M : MS) (F : List Addr) (H' : Hp) (M' : MS) (G : List Addr) : Prop where
  frm : Frm H M F H' M'
  new : ∀ a ∈ G, a ∈ F ∨ H a = none
section
variable {K : PySem.W.Frag} {pv : Pins} {H H1 H2 : Hp} {M M1 M2 : MS} {F F1 F2 G fv : List Addr} {σ : Sg} {ρ ρ1 : Env}
theorem Stp.refl : Stp H M F H M F := ⟨.refl, fun _ h => .inl h⟩
theorem Own.some_ (o : Own H M F) {a : Addr} (h : a ∈ F) : ∃ x, H a = some x := by
  have m := (o a h).2
  cases q : H a with
  | none => rw [q] at m; exact m.elim
  | some x => exact ⟨x, rfl⟩
theorem Stp.trans (s : Stp H M F H1 M1 (fv ++ F1)) (t : Stp H1 M1 F1 H2 M2 G) : Stp H M F H2 M2 (fv ++ G) := by
  have out : ∀ a o, H a = some o → a ∉ F → a ∉ F1 := fun a o e h h1 => by
    rcases s.new a (List.mem_append_right _ h1) with z | z
    · exact h z
    · rw [e] at z; cases z
  refine ⟨⟨fun a o e h n => t.frm.keep a o (s.frm.keep a o e h n) (out a o e h) n, fun a o e h => ?_, fun a o e => ?_, fun P q l z => t.frm.tabs P q l (s.frm.tabs P q l z)⟩, fun a h => ?_⟩
  · obtain ⟨o1, e1⟩ := s.frm.there a o e
    exact (t.frm.own a o1 e1 (out a o e h)).trans (s.frm.own a o e h)
  · obtain ⟨o1, e1⟩ := s.frm.there a o e
    exact t.frm.there a o1 e1
  · rcases List.mem_append.mp h with h | h
    · exact s.new a (List.mem_append_left _ h)
    · rcases t.new a h with z | z
      · exact s.new a (List.mem_append_right _ z)
      · refine .inr ?_
        cases q : H a with
        | none => rfl
        | some o =>
          obtain ⟨o1, e1⟩ := s.frm.there a o q
          rw [z] at e1; cases e1
theorem Stp.trans0 (s : Stp H M F H1 M1 F1) (t : Stp H1 M1 F1 H2 M2 G) : Stp H M F H2 M2 G := by
  have := Stp.trans (fv := []) (by simpa using s) t
  simpa using this
theorem Stp.sub {G' : List Addr} (s : Stp H M F H1 M1 G) (h : ∀ a ∈ G', a ∈ G) : Stp H M F H1 M1 G' := ⟨s.frm, fun a ha => s.new a (h a ha)⟩
theorem Reps.hold {vs : List V} {ts : List T} (r : Reps K H1 M1 fv vs ts) (S : Own H1 M1 F1) (nd : (fv ++ F1).Nodup) (st : Stp H1 M1 F1 H2 M2 G) : Reps K H2 M2 fv vs ts ∧ ∀ a ∈ fv, a ∉ G := by
  have dj : ∀ a ∈ fv, a ∉ F1 := fun a h h' => (List.nodup_append.mp nd).2.2 a h a h' rfl
  refine ⟨r.frm st.frm S dj, fun a h h' => ?_⟩
  rcases st.new a h' with z | z
  · exact dj a h z
  · obtain ⟨x, e⟩ := r.own.some_ h
    rw [e] at z; cases z
end
def VQ (K : PySem.W.Frag) (mg : Str → Option Value) (pv : Pins) (σ : Sg) (H : Hp) (M : MS) (F : List Addr) (W : WX) (Q : V → Hp → Prop) : R (T × Env) → Prop
  | .ok (t, ρ') => ∀ v H' M' fv F', Rep K H' M' fv v t → Sta K pv H' M' F' σ ρ' → (fv ++ F').Nodup → Stp H M F H' M' (fv ++ F') → Q v H'
  | .ex x ρ' => ∀ cls d H' M' F', ExR mg H' cls d x → Sta K pv H' M' F' σ ρ' → Stp H M F H' M' F' → W cls d σ H'
  | .bad => False
def VA (K : PySem.W.Frag) (mg : Str → Option Value) (pv : Pins) (σ : Sg) (H : Hp) (M : MS) (F : List Addr) (W : WX) (Q : List V → Hp → Prop) : R (List T × Env) → Prop
  | .ok (ts, ρ') => ∀ vs H' M' fv F', Reps K H' M' fv vs ts → Sta K pv H' M' F' σ ρ' → (fv ++ F').Nodup → Stp H M F H' M' (fv ++ F') → Q vs H'
  | .ex x ρ' => ∀ cls d H' M' F', ExR mg H' cls d x → Sta K pv H' M' F' σ ρ' → Stp H M F H' M' F' → W cls d σ H'
  | .bad => False
def VB (K : PySem.W.Frag) (mg : Str → Option Value) (pv : Pins) (σ : Sg) (H : Hp) (M : MS) (F : List Addr) (W : WX) (Q : Bool → Hp → Prop) : R (Bool × Env) → Prop
  | .ok (b, ρ') => ∀ H' M' F', Sta K pv H' M' F' σ ρ' → Stp H M F H' M' F' → Q b H'
  | .ex x ρ' => ∀ cls d H' M' F', ExR mg H' cls d x → Sta K pv H' M' F' σ ρ' → Stp H M F H' M' F' → W cls d σ H'
  | .bad => False
def TEd (X : Cx) (pv : Pins) (W : WX) (d : De) : TE := fun σ H Q => ∃ M F ρ, Sta X.K pv H M F σ ρ ∧ VQ X.K X.mg pv σ H M F W Q (d ρ)
def TAd (X : Cx) (pv : Pins) (W : WX) (d : Da) : TA := fun σ H Q => ∃ M F ρ, Sta X.K pv H M F σ ρ ∧ VA X.K X.mg pv σ H M F W Q (d ρ)
def TBd (X : Cx) (pv : Pins) (W : WX) (d : Db) : TT := fun σ H Q => ∃ M F ρ, Sta X.K pv H M F σ ρ ∧ VB X.K X.mg pv σ H M F W Q (d ρ)
def TRd (X : Cx) (pv : Pins) (d : Dr) : TE := fun σ H Q => ∃ M F ρ, Sta X.K pv H M F σ ρ ∧ ∃ t, d ρ = some t ∧ ∀ v fv, Rep X.K H M fv v t → Q v H
abbrev LE (X : Cx) (pv : Pins) (W : WX) (e : Expr) (d : De) : Prop := PE X e (TEd X pv W d)
abbrev LA (X : Cx) (pv : Pins) (W : WX) (es : List Expr) (d : Da) : Prop := PA X es (TAd X pv W d)
abbrev LT (X : Cx) (pv : Pins) (W : WX) (e : Expr) (d : Db) : Prop := PT X e (TBd X pv W d)
abbrev LW (X : Cx) (pv : Pins) (W : WX) (e : Expr) (d : Db) : Prop := PW X e (TBd X pv W d)
abbrev RE (X : Cx) (pv : Pins) (e : Expr) (d : Dr) : Prop := PE X e (TRd X pv d)
theorem weakE {X : Cx} {e : Expr} {t t' : TE} (h : PE X e t) (w : ∀ σ H Q, t' σ H Q → t σ H Q) : PE X e t' := ⟨fun pins s σ H Q I q => h.run pins s σ H Q I (w σ H Q q)⟩
theorem weakA {X : Cx} {e : List Expr} {t t' : TA} (h : PA X e t) (w : ∀ σ H Q, t' σ H Q → t σ H Q) : PA X e t' := ⟨fun pos pins s σ H Q I q => h.run pos pins s σ H Q I (w σ H Q q)⟩
theorem weakT {X : Cx} {e : Expr} {t t' : TT} (h : PT X e t) (w : ∀ σ H Q, t' σ H Q → t σ H Q) : PT X e t' := ⟨fun pins s σ H Q I q => h.run pins s σ H Q I (w σ H Q q)⟩
theorem weakW {X : Cx} {e : Expr} {t t' : TT} (h : PW X e t) (w : ∀ σ H Q, t' σ H Q → t σ H Q) : PW X e t' := ⟨fun whole pins s σ H Q I q => h.run whole pins s σ H Q I (w σ H Q q)⟩
section
variable {X : Cx} {pv : Pins} {W : WX} {K : PySem.W.Frag} {mg : Str → Option Value} {H H1 H2 : Hp} {M M1 M2 : MS} {F F1 F2 G fv : List Addr} {σ : Sg} {ρ ρ1 : Env} {vs : List V} {ts : List T}
theorem TEd.mono {d : De} {Q Q' : V → Hp → Prop} (h : TEd X pv W d σ H Q) (w : ∀ v H, Q v H → Q' v H) : TEd X pv W d σ H Q' := by
  obtain ⟨M, F, ρ, S, q⟩ := h
  refine ⟨M, F, ρ, S, ?_⟩
  cases e : d ρ with
  | bad => rw [e] at q; exact q
  | ex x ρ' => rw [e] at q; exact q
  | ok a => rw [e] at q; exact fun v H' M' fv F' a b c d => w _ _ (q v H' M' fv F' a b c d)
theorem TAd.mono {d : Da} {Q Q' : List V → Hp → Prop} (h : TAd X pv W d σ H Q) (w : ∀ v H, Q v H → Q' v H) : TAd X pv W d σ H Q' := by
  obtain ⟨M, F, ρ, S, q⟩ := h
  refine ⟨M, F, ρ, S, ?_⟩
  cases e : d ρ with
  | bad => rw [e] at q; exact q
  | ex x ρ' => rw [e] at q; exact q
  | ok a => rw [e] at q; exact fun v H' M' fv F' a b c d => w _ _ (q v H' M' fv F' a b c d)
theorem TBd.mono {d : Db} {Q Q' : Bool → Hp → Prop} (h : TBd X pv W d σ H Q) (w : ∀ v H, Q v H → Q' v H) : TBd X pv W d σ H Q' := by
  obtain ⟨M, F, ρ, S, q⟩ := h
  refine ⟨M, F, ρ, S, ?_⟩
  cases e : d ρ with
  | bad => rw [e] at q; exact q
  | ex x ρ' => rw [e] at q; exact q
  | ok a => rw [e] at q; exact fun H' M' F' a b => w _ _ (q H' M' F' a b)
theorem ex_of {x : Ex} {ρ' : Env} (st : Stp H M F H1 M1 (fv ++ F1))
    (h : ∀ cls d H' M' F', ExR mg H' cls d x → Sta K pv H' M' F' σ ρ' → Stp H M F H' M' F' → W cls d σ H') :
    ∀ cls d H' M' F', ExR mg H' cls d x → Sta K pv H' M' F' σ ρ' → Stp H1 M1 F1 H' M' F' → W cls d σ H' :=
  fun cls d H' M' F' a b c => h cls d H' M' F' a b ((st.trans c).sub fun _ h => List.mem_append_right _ h)
theorem nd3 {fv fv2 F2 : List Addr} (nd : (fv ++ F1).Nodup) (nd2 : (fv2 ++ F2).Nodup) (d : ∀ a ∈ fv, a ∉ fv2 ++ F2) : (fv ++ (fv2 ++ F2)).Nodup :=
  List.nodup_append.mpr ⟨(List.nodup_append.mp nd).1, nd2, fun a ha b hb e => d a ha (e ▸ hb)⟩
theorem stepE {α : Type} {d : De} {k : T → Env → R α} {P : R α → Prop} (held : Reps X.K H1 M1 fv vs ts) (S1 : Sta X.K pv H1 M1 F1 σ ρ1) (nd : (fv ++ F1).Nodup) (st : Stp H M F H1 M1 (fv ++ F1))
    (hex : ∀ x ρ', P (.ex x ρ') → ∀ cls d H' M' F', ExR X.mg H' cls d x → Sta X.K pv H' M' F' σ ρ' → Stp H M F H' M' F' → W cls d σ H') (hbad : ¬ P .bad)
    (h : P ((d ρ1).bind fun a => k a.1 a.2)) :
    TEd X pv W d σ H1 (fun v2 H2 => ∃ t2 ρ2 M2 fv2 F2, Reps X.K H2 M2 (fv ++ fv2) (vs ++ [v2]) (ts ++ [t2]) ∧ Sta X.K pv H2 M2 F2 σ ρ2 ∧ ((fv ++ fv2) ++ F2).Nodup ∧ Stp H M F H2 M2 ((fv ++ fv2) ++ F2) ∧ P (k t2 ρ2)) := by
  refine ⟨M1, F1, ρ1, S1, ?_⟩
  cases e : d ρ1 with
  | bad => rw [e] at h; exact hbad h
  | ex x ρ' =>
    rw [e] at h
    exact ex_of st (hex x ρ' h)
  | ok a =>
    obtain ⟨t2, ρ2⟩ := a
    rw [e] at h
    intro v2 H2 M2 fv2 F2 r2 S2 nd2 st2
    obtain ⟨held2, dj⟩ := held.hold S1.rep.own nd st2
    refine ⟨t2, ρ2, M2, fv2, F2, held2.app (Reps.one r2), S2, ?_, ?_, h⟩
    · rw [List.append_assoc]; exact nd3 nd nd2 dj
    · rw [List.append_assoc]; exact st.trans st2
theorem exQ {Q : V → Hp → Prop} (x : Ex) (ρ' : Env) (h : VQ K mg pv σ H M F W Q (.ex x ρ')) : ∀ cls d H' M' F', ExR mg H' cls d x → Sta K pv H' M' F' σ ρ' → Stp H M F H' M' F' → W cls d σ H' := h
theorem exA {Q : List V → Hp → Prop} (x : Ex) (ρ' : Env) (h : VA K mg pv σ H M F W Q (.ex x ρ')) : ∀ cls d H' M' F', ExR mg H' cls d x → Sta K pv H' M' F' σ ρ' → Stp H M F H' M' F' → W cls d σ H' := h
theorem exB {Q : Bool → Hp → Prop} (x : Ex) (ρ' : Env) (h : VB K mg pv σ H M F W Q (.ex x ρ')) : ∀ cls d H' M' F', ExR mg H' cls d x → Sta K pv H' M' F' σ ρ' → Stp H M F H' M' F' → W cls d σ H' := h
inductive RB (K : PySem.W.Frag) (H : Hp) (M : MS) : List V → List T → Prop
  | nil : RB K H M [] []
  | cons {fp : List Addr} {v : V} {t : T} {vs : List V} {ts : List T} : Rep K H M fp v t → RB K H M vs ts → RB K H M (v :: vs) (t :: ts)
theorem Reps.rb : ∀ {fp : List Addr} {vs : List V} {ts : List T}, Reps K H M fp vs ts → RB K H M vs ts
  | _, _, _, .nil => .nil
  | _, _, _, .cons r rs => .cons r rs.rb
theorem RB.app : ∀ {vs ws : List V} {ts us : List T}, RB K H M vs ts → RB K H M ws us → RB K H M (vs ++ ws) (ts ++ us)
  | _, _, _, _, .nil, s => s
  | _, _, _, _, .cons r rs, s => .cons r (rs.app s)
abbrev RV := List V → Hp → VK → Prop
def ROp (K : PySem.W.Frag) (r : RV) (f : List T → Option T) : Prop :=
  ∀ H M vs ts t Q, RB K H M vs ts → f ts = some t → (∀ v fv, Rep K H M fv v t → Q v H) → r vs H Q
def BOp (K : PySem.W.Frag) (r : RV) (f : List T → Option T) : Prop :=
  ∀ H M vs ts t Q, RB K H M vs ts → f ts = some t → (∀ v H' M' fv, Rep K H' M' fv v t → fv.Nodup → Stp H M [] H' M' fv → Q v H') → r vs H Q
def VOp (K : PySem.W.Frag) (r : RV) (f : List T → Option T) : Prop :=
  ∀ H M fw vs ts t Q, Reps K H M fw vs ts → fw.Nodup → f ts = some t → (∀ v H' M' fv, Rep K H' M' fv v t → fv.Nodup → Stp H M fw H' M' fv → Q v H') → r vs H Q
theorem Stp.wide {A B : List Addr} (s : Stp H M A H1 M1 G) (h : ∀ a ∈ A, a ∈ B) : Stp H M B H1 M1 G :=
  ⟨⟨fun a o e n t => s.frm.keep a o e (fun z => n (h a z)) t, fun a o e n => s.frm.own a o e fun z => n (h a z), s.frm.there, s.frm.tabs⟩, fun a ha => (s.new a ha).imp (h a) id⟩
theorem BOp.v {r : RV} {f : List T → Option T} (h : BOp K r f) : VOp K r f := fun H M fw vs ts t Q rs nd e q =>
  h H M vs ts t Q rs.rb e fun v H' M' fv a b c => q v H' M' fv a b (c.wide fun _ z => nomatch z)
def fro (f : List T → Option T) : List T → Option T := fun ts => match f ts with
  | some t => if t.fr = true then some t else none
  | none => none
theorem jnh {f : List T → Option T} {ts : List T} {t : T} (h : fro f ts = some t) : f ts = some t ∧ t.fr = true := by
  unfold fro at h
  split at h
  · split at h
    · rename_i e g
      rw [e]; exact ⟨h, by cases h; exact g⟩
    · cases h
  · cases h
theorem ROp.b {r : RV} {f : List T → Option T} (h : ROp K r f) : BOp K r (fro f) := fun H M vs ts t Q rs e q => by
  obtain ⟨e1, e2⟩ := jnh e
  refine h H M vs ts t Q rs e1 fun v fv a => ?_
  have z := a.fpNil e2
  subst z
  exact q v H M [] a List.nodup_nil .refl
theorem finQ {r : RV} {f : List T → Option T} {Q : V → Hp → Prop} (o : VOp X.K r f) (held : Reps X.K H1 M1 fv vs ts) (S1 : Sta X.K pv H1 M1 F1 σ ρ1) (nd : (fv ++ F1).Nodup) (st : Stp H M F H1 M1 (fv ++ F1))
    (h : VQ X.K X.mg pv σ H M F W Q (match f ts with | some t => .ok (t, ρ1) | none => .bad)) : r vs H1 Q := by
  cases e : f ts with
  | none => rw [e] at h; exact h.elim
  | some t =>
    rw [e] at h
    refine o H1 M1 fv vs ts t Q held (List.nodup_append.mp nd).1 e fun v H' M' fv' rep nd' st' => ?_
    have dj : ∀ a ∈ F1, a ∉ fv := fun a h h' => (List.nodup_append.mp nd).2.2 a h' a h rfl
    have S' : ERep X.K H' M' F1 σ ρ1 := S1.rep.frm st'.frm held.own dj
    have dj' : ∀ a ∈ F1, a ∉ fv' := fun a h h' => by
      rcases st'.new a h' with z | z
      · exact dj a h z
      · obtain ⟨x, e⟩ := S1.rep.own.some_ h
        rw [e] at z; cases z
    have n' : (fv' ++ F1).Nodup := List.nodup_append.mpr ⟨nd', S1.nd, fun a ha b hb e => dj' b hb (e ▸ ha)⟩
    refine h v H' M' fv' F1 rep ⟨S', S1.nd, S1.pin⟩ n' ?_
    have s1 : Stp H M F H1 M1 (F1 ++ fv) := st.sub fun a h => (List.mem_append.mp h).elim (List.mem_append_right _) (List.mem_append_left _)
    exact (s1.trans st').sub fun a h => (List.mem_append.mp h).elim (List.mem_append_right _) (List.mem_append_left _)
end
def dNil : Da := fun ρ => .ok ([], ρ)
def dCons (d : De) (ds : Da) : Da := fun ρ => (d ρ).bind fun a => (ds a.2).bind fun b => .ok (a.1 :: b.1, b.2)
section
variable {X : Cx} {pv : Pins} {W : WX} {e : Expr} {es : List Expr} {d : De} {ds : Da}
theorem lNil : LA X pv W [] dNil := weakA pa_nil fun σ H Q ⟨M, F, ρ, S, h⟩ => h [] H M [] F .nil S (by simpa using S.nd) (by simpa using Stp.refl)
theorem stepA {α : Type} {ds : Da} {k : List T → Env → R α} {P : R α → Prop} {H H1 : Hp} {M M1 : MS} {F F1 fv : List Addr} {σ : Sg} {ρ1 : Env} {vs : List V} {ts : List T}
    (held : Reps X.K H1 M1 fv vs ts) (S1 : Sta X.K pv H1 M1 F1 σ ρ1) (nd : (fv ++ F1).Nodup) (st : Stp H M F H1 M1 (fv ++ F1))
    (hex : ∀ x ρ', P (.ex x ρ') → ∀ cls d H' M' F', ExR X.mg H' cls d x → Sta X.K pv H' M' F' σ ρ' → Stp H M F H' M' F' → W cls d σ H') (hbad : ¬ P .bad)
    (h : P ((ds ρ1).bind fun a => k a.1 a.2)) :
    TAd X pv W ds σ H1 (fun v2 H2 => ∃ t2 ρ2 M2 fv2 F2, Reps X.K H2 M2 (fv ++ fv2) (vs ++ v2) (ts ++ t2) ∧ Sta X.K pv H2 M2 F2 σ ρ2 ∧ ((fv ++ fv2) ++ F2).Nodup ∧ Stp H M F H2 M2 ((fv ++ fv2) ++ F2) ∧ P (k t2 ρ2)) := by
  refine ⟨M1, F1, ρ1, S1, ?_⟩
  cases e : ds ρ1 with
  | bad => rw [e] at h; exact hbad h
  | ex x ρ' =>
    rw [e] at h
    exact ex_of st (hex x ρ' h)
  | ok a =>
    obtain ⟨t2, ρ2⟩ := a
    rw [e] at h
    intro v2 H2 M2 fv2 F2 r2 S2 nd2 st2
    obtain ⟨held2, dj⟩ := held.hold S1.rep.own nd st2
    refine ⟨t2, ρ2, M2, fv2, F2, held2.app r2, S2, ?_, ?_, h⟩
    · rw [List.append_assoc]; exact nd3 nd nd2 dj
    · rw [List.append_assoc]; exact st.trans st2
theorem lCons (h : LE X pv W e d) (hs : LA X pv W es ds) (hst : starEach (e :: es) X.env = (false, eval e X.env) :: starEach es X.env := by rfl) : LA X pv W (e :: es) (dCons d ds) := by
  refine weakA (pa_cons h hs hst) fun σ H Q ⟨M, F, ρ, S, q⟩ => ?_
  refine (stepE (k := fun t ρ1 => (ds ρ1).bind fun b => .ok (t :: b.1, b.2)) (P := VA X.K X.mg pv σ H M F W Q) (fv := []) .nil S S.nd .refl exA id q).mono fun v H1 ⟨t1, ρ1, M1, fv1, F1, a1, a2, a3, a4, a5⟩ => ?_
  refine (stepA (k := fun us ρ1 => .ok (t1 :: us, ρ1)) (P := VA X.K X.mg pv σ H M F W Q) a1 a2 a3 a4 exA id a5).mono fun vs H2 ⟨ts, ρ2, M2, fv2, F2, b1, b2, b3, b4, b5⟩ => ?_
  exact b5 _ _ _ _ _ b1 b2 b3 b4
end
end Q
namespace Q
open PySem PySem.Spec PyProof.Rows L2
variable [tbI : Tbl]
include tbI
section
variable {X : Cx} {pv : Pins} {W : WX} {e a b : Expr} {es : List Expr} {pos : Pos} {d da db : De} {r : Dr}
variable {K : PySem.W.Frag} {mg : Str → Option Value} {H H1 H2 : Hp} {M M1 M2 : MS} {F F1 F2 G fv fp : List Addr} {σ : Sg} {ρ ρ1 : Env} {vs : List V} {ts : List T}
def rVar (i : Nat) : Dr := fun ρ => match ρ[i]? with | some (some t) => some t | _ => none
theorem je5 {i : Nat} {ρ : Env} {t : T} (h : rVar i ρ = some t) : ρ[i]? = some (some t) := by
  unfold rVar at h
  split at h
  · rename_i u e; cases h; exact e
  · cases h
theorem jaa (i : Nat) {x : Str} (hN : X.N[i]? = some x := by rfl) (hv : Vis X.env.scope x := by first | exact Or.inl rfl | exact Or.inr (Or.inl rfl) | exact Or.inr (Or.inr rfl)) (hd : (x == ("__debug__" : Str)) = false := by decide)
    (hcd : (x == ("__classdict__" : Str)) = false := by decide) : RE X pv (.Name x pos) (rVar i) := weakE (pe_var hN hv hd hcd) fun σ H Q ⟨M, F, ρ, S, t, e, q⟩ => by
  obtain ⟨v, fp, h1, h2, _⟩ := S.rep.get (je5 e)
  exact ⟨v, h1, q v fp h2⟩
def rC (t : T) : Dr := fun _ => some t
theorem jad {i : Int} {j} : RE X pv (.Constant (.int i) j pos) (rC (.int i)) := weakE pe_int fun σ H Q ⟨M, F, ρ, S, t, e, q⟩ => by cases e; exact q _ [] (.int i)
theorem re_bl {i : Bool} {j} : RE X pv (.Constant (.bool i) j pos) (rC (.bl i)) := weakE pe_bl fun σ H Q ⟨M, F, ρ, S, t, e, q⟩ => by cases e; exact q _ [] (.bl i)
theorem jm2 {j} : RE X pv (.Constant .none j pos) (rC .non) := weakE pe_non fun σ H Q ⟨M, F, ρ, S, t, e, q⟩ => by cases e; exact q _ [] .non
theorem jax {x : Str} {j} : RE X pv (.Constant (.str x) j pos) (rC (.str x)) := weakE pe_str fun σ H Q ⟨M, F, ρ, S, t, e, q⟩ => by cases e; exact q _ [] (.str x)
structure Glo (K : PySem.W.Frag) (mg : Str → Option Value) (x : Str) (t : T) : Prop where
  ex : ∃ u v, mg x = some u ∧ RelV v u ∧ ∀ H M, Rep K H M [] v t
theorem jim {x : Str} {t : T} (g : Glo X.K X.mg x t) (hg : Gl X x := by rfl) (hd : (x == ("__debug__" : Str)) = false := by decide) : RE X pv (.Name x pos) (rC t) := by
  obtain ⟨u, v, h1, h2, h3⟩ := g.ex
  exact weakE (pe_glob hg h1 h2 hd) fun σ H Q ⟨M, F, ρ, S, t, e, q⟩ => by cases e; exact q _ [] (h3 H M)
def dOf (r : Dr) : De := fun ρ => match r ρ with | some t => if t.fr = true then .ok (t, ρ) else .bad | none => .bad
theorem l_of (h : RE X pv e r) : LE X pv W e (dOf r) := weakE h fun σ H Q ⟨M, F, ρ, S, q⟩ => by
  unfold dOf at q
  cases e1 : r ρ with
  | none => rw [e1] at q; exact q.elim
  | some t =>
    rw [e1] at q
    by_cases g : t.fr = true
    · simp only [if_pos g] at q
      refine ⟨M, F, ρ, S, t, e1, fun v fv rep => ?_⟩
      have z := rep.fpNil g
      subst z
      exact q v H M [] F rep S (by simpa using S.nd) .refl
    · simp only [if_neg g] at q; exact q.elim
theorem jks {A B : List Addr} (p : A.Perm B) (h : A.Nodup) : B.Nodup := p.nodup_iff.mp h
def dMove (i : Nat) : De := fun ρ => match rVar i ρ with | some t => .ok (t, ρ.set i none) | none => .bad
theorem Sta.take (S : Sta K pv H M F σ ρ) {i : Nat} {t : T} (e : ρ[i]? = some (some t)) : ∃ v fp G, σ[i]? = some (some v) ∧ Rep K H M fp v t ∧ Sta K pv H M G σ (ρ.set i none) ∧ (fp ++ G).Nodup ∧ Stp H M F H M (fp ++ G) := by
  obtain ⟨v, fp, G, h1, h2, h3, h4⟩ := S.rep.take e
  have n := jks h4 S.nd
  exact ⟨v, fp, G, h1, h2, ⟨h3, (List.nodup_append.mp n).2.1, S.pin⟩, n, ⟨.refl, fun a ha => .inl (h4.mem_iff.mpr ha)⟩⟩
theorem l_move (i : Nat) {x : Str} (hN : X.N[i]? = some x := by rfl) (hv : Vis X.env.scope x := by first | exact Or.inl rfl | exact Or.inr (Or.inl rfl) | exact Or.inr (Or.inr rfl)) (hd : (x == ("__debug__" : Str)) = false := by decide)
    (hcd : (x == ("__classdict__" : Str)) = false := by decide) : LE X pv W (.Name x pos) (dMove i) := weakE (pe_var hN hv hd hcd) fun σ H Q ⟨M, F, ρ, S, q⟩ => by
  unfold dMove at q
  cases e : rVar i ρ with
  | none => rw [e] at q; exact q.elim
  | some t =>
    rw [e] at q
    obtain ⟨v, fp, G, h1, h2, h3, h4, h5⟩ := S.take (je5 e)
    exact ⟨v, h1, q v H M fp G h2 h3 h4 h5⟩
def dFz (d : De) : De := fun ρ => (d ρ).bind fun x => .ok (x.1.fz, x.2)
theorem l_fz (h : LE X pv W e d) : LE X pv W e (dFz d) := weakE h fun σ H Q ⟨M, F, ρ, S, q⟩ => by
  refine ⟨M, F, ρ, S, ?_⟩
  unfold dFz at q
  cases e1 : d ρ with
  | bad => rw [e1] at q; exact q
  | ex x ρ' => rw [e1] at q; exact q
  | ok x =>
    rw [e1] at q
    intro v H' M' fv F' h1 h2 h3 h4
    have dj : ∀ a ∈ F', a ∉ fv := fun a h h' => (List.nodup_append.mp h3).2.2 a h' a h rfl
    refine q v H' (fun a => M' a ∧ a ∉ fv) [] F' (h1.freeze (fun a h => h.1) fun a ha h => h.2 ha) ⟨h2.rep.less (fun a h => h.1) fun a ha => ⟨(h2.rep.own a ha).1, dj a ha⟩, h2.nd, h2.pin⟩ (by simpa using h2.nd) ?_
    refine ⟨⟨fun a o e n t => h4.frm.keep a o e n t, fun a o e n => ?_, h4.frm.there, fun P q l t => (h4.frm.tabs P q l t).less fun a z => z.1⟩, fun a ha => h4.new a (List.mem_append_right _ (by simpa using ha))⟩
    have nf : a ∉ fv := fun z => by
      rcases h4.new a (List.mem_append_left _ z) with w | w
      · exact n w
      · rw [e] at w; cases w
    exact ⟨fun z => (h4.frm.own a o e n).mp z.1, fun z => ⟨(h4.frm.own a o e n).mpr z, nf⟩⟩
def dVar (i : Nat) : De := fun ρ => match rVar i ρ with | some t => .ok (t.fz, ρ.set i (some t.fz)) | none => .bad
theorem jin {α : Type} {l : List α} {i : Nat} {x : α} (h : l[i]? = some x) : l.set i x = l := by
  apply List.ext_getElem?
  intro j
  by_cases e : i = j
  · subst e
    rw [List.getElem?_set_self (List.getElem?_eq_some_iff.mp h).1, h]
  · rw [List.getElem?_set_ne e]
theorem l_var (i : Nat) {x : Str} (hN : X.N[i]? = some x := by rfl) (hv : Vis X.env.scope x := by first | exact Or.inl rfl | exact Or.inr (Or.inl rfl) | exact Or.inr (Or.inr rfl)) (hd : (x == ("__debug__" : Str)) = false := by decide)
    (hcd : (x == ("__classdict__" : Str)) = false := by decide) : LE X pv W (.Name x pos) (dVar i) := weakE (pe_var hN hv hd hcd) fun σ H Q ⟨M, F, ρ, S, q⟩ => by
  unfold dVar at q
  cases e : rVar i ρ with
  | none => rw [e] at q; exact q.elim
  | some t =>
    rw [e] at q
    obtain ⟨v, fp, G, h1, h2, h3, h4, h5⟩ := S.take (je5 e)
    have dj : ∀ a ∈ G, a ∉ fp := fun a h h' => (List.nodup_append.mp h4).2.2 a h' a h rfl
    have r1 : Rep X.K H (fun a => M a ∧ a ∉ fp) [] v t.fz := h2.freeze (fun a h => h.1) fun a ha h => h.2 ha
    have r2 : ERep X.K H (fun a => M a ∧ a ∉ fp) G σ (ρ.set i none) := h3.rep.less (fun a h => h.1) fun a ha => ⟨(h3.rep.own a ha).1, dj a ha⟩
    have hl : i < ρ.length := (List.getElem?_eq_some_iff.mp (je5 e)).1
    obtain ⟨F', r3, p⟩ := r2.put (i := i) (v := v) (by rw [List.getElem?_set_self hl]) r1
    rw [jin h1, List.set_set] at r3
    have n3 : F'.Nodup := (p.nodup_iff).mpr (by simpa using h3.nd)
    refine ⟨v, h1, q v H _ [] F' r1 ⟨r3, n3, S.pin⟩ (by simpa using n3) ⟨⟨fun a o e _ _ => e, fun a o e n => ?_, fun a o e => ⟨o, e⟩, fun P q _ t => t.less fun a z => z.1⟩, fun a ha => ?_⟩⟩
    · have nf : a ∉ fp := fun z => by
        rcases h5.new a (List.mem_append_left _ z) with w | w
        · exact n w
        · rw [e] at w; cases w
      exact ⟨fun z => z.1, fun z => ⟨z, nf⟩⟩
    · have : a ∈ G := by simpa using p.mem_iff.mp (by simpa using ha)
      exact h5.new a (List.mem_append_right _ this)
def rOp1 (f : List T → Option T) (r : Dr) : Dr := fun ρ => match r ρ with | some t => f [t] | none => none
def rOp2 (f : List T → Option T) (r s : Dr) : Dr := fun ρ => match r ρ, s ρ with | some t, some u => f [t, u] | _, _ => none
def rOp3 (f : List T → Option T) (r s u : Dr) : Dr := fun ρ => match r ρ, s ρ, u ρ with | some t, some t', some t'' => f [t, t', t''] | _, _, _ => none
def bOp (f : List T → Option T) (rs : List Dr) : De := fun ρ => match rs.mapM (fun r => r ρ) with | some ts => (match f ts with | some t => .ok (t, ρ) | none => .bad) | none => .bad
def vOp (f : List T → Option T) (ds : Da) : De := fun ρ => (ds ρ).bind fun x => match f x.1 with | some t => .ok (t, x.2) | none => .bad
abbrev vOp1 (f : List T → Option T) (d : De) : De := vOp f (dCons d dNil)
abbrev vOp2 (f : List T → Option T) (d d' : De) : De := vOp f (dCons d (dCons d' dNil))
theorem rr2 {r s : Dr} {Q' : V → V → Hp → Prop} (S : Sta X.K pv H M F σ ρ) {t u : T} (e1 : r ρ = some t) (e2 : s ρ = some u)
    (q : ∀ v w fv fw, Rep X.K H M fv v t → Rep X.K H M fw w u → Q' v w H) : TRd X pv r σ H fun v H1 => TRd X pv s σ H1 fun w H2 => Q' v w H2 :=
  ⟨M, F, ρ, S, t, e1, fun v fv r1 => ⟨M, F, ρ, S, u, e2, fun w fw r2 => q v w fv fw r1 r2⟩⟩
theorem jei {f : List T → Option T} {r s : Dr} {ρ : Env} {t : T} (h : rOp2 f r s ρ = some t) : ∃ a b, r ρ = some a ∧ s ρ = some b ∧ f [a, b] = some t := by
  unfold rOp2 at h
  split at h
  · rename_i a b e1 e2; exact ⟨a, b, e1, e2, h⟩
  · cases h
theorem jmc {f : List T → Option T} {r : Dr} {ρ : Env} {t : T} (h : rOp1 f r ρ = some t) : ∃ a, r ρ = some a ∧ f [a] = some t := by
  unfold rOp1 at h
  split at h
  · rename_i a e1; exact ⟨a, e1, h⟩
  · cases h
abbrev r2L (r : R2) : RV := fun vs H Q => match vs with | [x, y] => r x y H Q | _ => False
theorem jap {op : Operator} {rr : R2} {f : List T → Option T} {s : Dr} (ho : OpR X (binaryOp op) rr) (o : ROp X.K (r2L rr) f) (ha : RE X pv a r) (hb : RE X pv b s) : RE X pv (.BinOp a op b pos) (rOp2 f r s) :=
  weakE (pe_op ho ha hb) fun σ H Q ⟨M, F, ρ, S, t, e, q⟩ => by
    obtain ⟨x, y, e1, e2, e3⟩ := jei e
    exact rr2 S e1 e2 fun v w fv fw r1 r2 => o H M [v, w] [x, y] t Q (.cons r1 (.cons r2 .nil)) e3 q
theorem jf6 {op : CmpOp} {rr : R2} {f : List T → Option T} {s : Dr} (ho : OpR X (compareOp op) rr) (o : ROp X.K (r2L rr) f) (ha : RE X pv a r) (hb : RE X pv b s) (hm : behindInMarks op b = false := by first | exact nomark _ | with_unfolding_all rfl) : RE X pv (.Compare a [op] [b] pos) (rOp2 f r s) :=
  weakE (pe_cmpR ho ha hb hm) fun σ H Q ⟨M, F, ρ, S, t, e, q⟩ => by
    obtain ⟨x, y, e1, e2, e3⟩ := jei e
    exact rr2 S e1 e2 fun v w fv fw r1 r2 => o H M [v, w] [x, y] t Q (.cons r1 (.cons r2 .nil)) e3 q
theorem re_un {op : UnaryOp} {rr : V → Hp → VK → Prop} {f : List T → Option T} (ho : UnR X (unaryOp op) rr) (o : ROp X.K (fun vs H Q => match vs with | [x] => rr x H Q | _ => False) f) (ha : RE X pv a r) : RE X pv (.UnaryOp op a pos) (rOp1 f r) :=
  weakE (pe_un ho ha) fun σ H Q ⟨M, F, ρ, S, t, e, q⟩ => by
    obtain ⟨x, e1, e3⟩ := jmc e
    exact ⟨M, F, ρ, S, x, e1, fun v fv r1 => o H M [v] [x] t Q (.cons r1 .nil) e3 q⟩
theorem re_ix {rr : R2} {f : List T → Option T} {s : Dr} (ho : IxR X rr) (o : ROp X.K (r2L rr) f) (ha : RE X pv a r) (hb : RE X pv b s) (hp : PlainIx b := by exact fun _ _ => rfl) : RE X pv (.Subscript a b pos) (rOp2 f r s) :=
  weakE (pe_ix ho ha hb hp) fun σ H Q ⟨M, F, ρ, S, t, e, q⟩ => by
    obtain ⟨x, y, e1, e2, e3⟩ := jei e
    exact rr2 S e1 e2 fun v w fv fw r1 r2 => o H M [v, w] [x, y] t Q (.cons r1 (.cons r2 .nil)) e3 q
theorem fin2 {rr : R2} {f : List T → Option T} {Q : VK} (o : VOp X.K (r2L rr) f) (S : Sta X.K pv H M F σ ρ) (q : VQ X.K X.mg pv σ H M F W Q (vOp2 f da db ρ)) :
    TEd X pv W da σ H fun v H1 => TEd X pv W db σ H1 fun w H2 => rr v w H2 Q := by
  have q' : VQ X.K X.mg pv σ H M F W Q ((da ρ).bind fun a => (db a.2).bind fun b => (match f [a.1, b.1] with | some t => .ok (t, b.2) | none => .bad : R (T × Env))) := by
    unfold vOp2 vOp dCons dNil at q
    cases e : da ρ with
    | bad => rw [e] at q; exact q
    | ex x ρ' => rw [e] at q; exact q
    | ok x =>
      rw [e] at q
      simp only [R.bind] at q ⊢
      cases e2 : db x.2 <;> (rw [e2] at q; exact q)
  refine (stepE (k := fun t ρ1 => (db ρ1).bind fun b => (match f [t, b.1] with | some t => .ok (t, b.2) | none => .bad : R (T × Env))) (P := VQ X.K X.mg pv σ H M F W Q) (fv := []) .nil S S.nd .refl exQ id q').mono fun v H1 ⟨t1, ρ1, M1, fv1, F1, a1, a2, a3, a4, a5⟩ => ?_
  refine (stepE (k := fun t ρ1 => (match f [t1, t] with | some t => .ok (t, ρ1) | none => .bad : R (T × Env))) (P := VQ X.K X.mg pv σ H M F W Q) a1 a2 a3 a4 exQ id a5).mono fun v H1 ⟨t1, ρ1, M1, fv1, F1, a1, a2, a3, a4, a5⟩ => ?_
  exact finQ o a1 a2 a3 a4 a5
theorem finA {rr : RV} {f : List T → Option T} {ds : Da} {Q : VK} (o : VOp X.K rr f) (S : Sta X.K pv H M F σ ρ) (q : VQ X.K X.mg pv σ H M F W Q (vOp f ds ρ)) :
    TAd X pv W ds σ H fun vs H1 => rr vs H1 Q :=
  (stepA (k := fun ts ρ1 => (match f ts with | some t => .ok (t, ρ1) | none => .bad : R (T × Env))) (P := VQ X.K X.mg pv σ H M F W Q) (fv := []) .nil S S.nd .refl exQ id q).mono fun v H1 ⟨t1, ρ1, M1, fv1, F1, a1, a2, a3, a4, a5⟩ =>
    finQ o a1 a2 a3 a4 a5
theorem l_bin {op : Operator} {rr : R2} {f : List T → Option T} (ho : OpR X (binaryOp op) rr) (o : VOp X.K (r2L rr) f) (ha : LE X pv W a da) (hb : LE X pv W b db) : LE X pv W (.BinOp a op b pos) (vOp2 f da db) :=
  weakE (pe_op ho ha hb) fun σ H Q ⟨M, F, ρ, S, q⟩ => fin2 o S q
theorem l_cmp {op : CmpOp} {rr : R2} {f : List T → Option T} (ho : OpR X (compareOp op) rr) (o : VOp X.K (r2L rr) f) (ha : LE X pv W a da) (hb : LE X pv W b db) (hm : behindInMarks op b = false := by first | exact nomark _ | with_unfolding_all rfl) : LE X pv W (.Compare a [op] [b] pos) (vOp2 f da db) :=
  weakE (pe_cmpR ho ha hb hm) fun σ H Q ⟨M, F, ρ, S, q⟩ => fin2 o S q
theorem l_ix {rr : R2} {f : List T → Option T} (ho : IxR X rr) (o : VOp X.K (r2L rr) f) (ha : LE X pv W a da) (hb : LE X pv W b db) (hp : PlainIx b := by exact fun _ _ => rfl) : LE X pv W (.Subscript a b pos) (vOp2 f da db) :=
  weakE (pe_ix ho ha hb hp) fun σ H Q ⟨M, F, ρ, S, q⟩ => fin2 o S q
theorem jjh {x : Str} {p : Pos} {id : String} {rr : RV} {f : List T → Option T} {ds : Da} (hc : CallR X (.builtin id) rr) (o : VOp X.K rr f) (ha : LA X pv W (e :: es) ds) (hv : bootBuiltins x = some (.builtin id)) (hm : X.mg x = none) (hg : Gl X x := by rfl) (hn : x ≠ "__name__" := by decide) (hdb : (x == ("__debug__" : Str)) = false := by decide)
    (he : starEach (e :: es) X.env = (false, eval e X.env) :: starEach es X.env := by rfl) (hpl : (backTo pos (starEach es X.env)).any (·.1) = false := by rfl) : LE X pv W (.Call (.Name x p) (e :: es) [] pos) (vOp f ds) :=
  weakE (pe_callB hc hg hm hv ha hn hdb he hpl) fun σ H Q ⟨M, F, ρ, S, q⟩ => finA o S q
theorem jjy {x : Str} {p : Pos} {Ty : String} {rr : RV} {f : List T → Option T} {ds : Da} (hc : CallR X (.type Ty) rr) (o : VOp X.K rr f) (ha : LA X pv W (e :: es) ds) (hv : bootBuiltins x = some (.type Ty)) (hm : X.mg x = none) (hg : Gl X x := by rfl) (hn : x ≠ "__name__" := by decide) (hdb : (x == ("__debug__" : Str)) = false := by decide)
    (he : starEach (e :: es) X.env = (false, eval e X.env) :: starEach es X.env := by rfl) (hpl : (backTo pos (starEach es X.env)).any (·.1) = false := by rfl) : LE X pv W (.Call (.Name x p) (e :: es) [] pos) (vOp f ds) :=
  weakE (pe_callTy hc hg hm hv ha hn hdb he hpl) fun σ H Q ⟨M, F, ρ, S, q⟩ => finA o S q
end
section
variable {X : Cx} {pv : Pins} {W : WX} {e a b : Expr} {es : List Expr} {pos : Pos}
variable {K : PySem.W.Frag} {mg : Str → Option Value} {H H1 H2 : Hp} {M M1 M2 : MS} {F F1 F2 G fv fp : List Addr} {σ : Sg} {ρ ρ1 : Env} {vs : List V} {ts : List T}
structure RA (X : Cx) (pv : Pins) (es : List Expr) (rs : List Dr) : Prop where
  run : PA X es (fun σ H Q => ∃ M F ρ, Sta X.K pv H M F σ ρ ∧ ∃ ts, rs.mapM (fun r => r ρ) = some ts ∧ ∀ vs, RB X.K H M vs ts → Q vs H)
theorem jc7 : RA X pv [] [] := ⟨weakA pa_nil fun σ H Q ⟨M, F, ρ, S, ts, e, q⟩ => by
  simp at e; subst e
  exact q [] .nil⟩
theorem jbh {r : Dr} {rs : List Dr} (h : RE X pv e r) (hs : RA X pv es rs) (hst : starEach (e :: es) X.env = (false, eval e X.env) :: starEach es X.env := by rfl) : RA X pv (e :: es) (r :: rs) :=
  ⟨weakA (pa_cons h hs.run hst) fun σ H Q ⟨M, F, ρ, S, ts, e1, q⟩ => by
    rw [List.mapM_cons] at e1
    cases e2 : r ρ with
    | none => rw [e2] at e1; cases e1
    | some t =>
      cases e3 : rs.mapM (fun r => r ρ) with
      | none => rw [e2, e3] at e1; cases e1
      | some us =>
        rw [e2, e3] at e1
        cases e1
        exact ⟨M, F, ρ, S, t, e2, fun v fv r1 => ⟨M, F, ρ, S, us, e3, fun vs r2 => q (v :: vs) (.cons r1 r2)⟩⟩⟩
def rOpN (f : List T → Option T) (rs : List Dr) : Dr := fun ρ => match rs.mapM (fun r => r ρ) with | some ts => f ts | none => none
theorem jjz {f : List T → Option T} {rs : List Dr} {ρ : Env} {t : T} (h : rOpN f rs ρ = some t) : ∃ ts, rs.mapM (fun r => r ρ) = some ts ∧ f ts = some t := by
  unfold rOpN at h
  split at h
  · rename_i ts e; exact ⟨ts, e, h⟩
  · cases h
theorem bOp_ok {f : List T → Option T} {rs : List Dr} {Q : VK} (q : VQ K mg pv σ H M F W Q (bOp f rs ρ)) : ∃ ts t, rs.mapM (fun r => r ρ) = some ts ∧ f ts = some t ∧ VQ K mg pv σ H M F W Q (.ok (t, ρ)) := by
  unfold bOp at q
  split at q
  · rename_i ts e
    split at q
    · rename_i t e2; exact ⟨ts, t, e, e2, q⟩
    · exact q.elim
  · exact q.elim
theorem finB {rr : RV} {f : List T → Option T} {t : T} {Q : VK} (o : BOp X.K rr f) (S : Sta X.K pv H M F σ ρ) (rb : RB X.K H M vs ts) (e : f ts = some t) (q : VQ X.K X.mg pv σ H M F W Q (.ok (t, ρ))) : rr vs H Q := by
  refine o H M vs ts t Q rb e fun v H' M' fv r1 n1 s1 => ?_
  have S' : ERep X.K H' M' F σ ρ := S.rep.frm s1.frm (fun _ z => nomatch z) fun _ _ z => nomatch z
  have dj : ∀ a ∈ fv, a ∉ F := fun a h h' => by
    rcases s1.new a h with z | z
    · exact nomatch z
    · obtain ⟨x, e⟩ := S.rep.own.some_ h'
      rw [e] at z; cases z
  refine q v H' M' fv F r1 ⟨S', S.nd, S.pin⟩ (List.nodup_append.mpr ⟨n1, S.nd, fun a ha b hb e => dj a ha (e ▸ hb)⟩) ⟨(s1.wide (B := F) fun _ z => nomatch z).frm, fun a ha => ?_⟩
  rcases List.mem_append.mp ha with h | h
  · exact (s1.new a h).imp (fun z => nomatch z) id
  · exact .inl h
theorem jbv {x : Str} {p : Pos} {id : String} {rr : RV} {f : List T → Option T} {rs : List Dr} (hc : CallR X (.builtin id) rr) (o : ROp X.K rr f) (ha : RA X pv (e :: es) rs) (hv : bootBuiltins x = some (.builtin id)) (hm : X.mg x = none) (hg : Gl X x := by rfl) (hn : x ≠ "__name__" := by decide) (hdb : (x == ("__debug__" : Str)) = false := by decide)
    (he : starEach (e :: es) X.env = (false, eval e X.env) :: starEach es X.env := by rfl) (hpl : (backTo pos (starEach es X.env)).any (·.1) = false := by rfl) : RE X pv (.Call (.Name x p) (e :: es) [] pos) (rOpN f rs) :=
  weakE (pe_callB hc hg hm hv ha.run hn hdb he hpl) fun σ H Q ⟨M, F, ρ, S, t, e, q⟩ => by
    obtain ⟨ts, e1, e2⟩ := jjz e
    exact ⟨M, F, ρ, S, ts, e1, fun vs rb => o H M vs ts t Q rb e2 q⟩
theorem jex {x : Str} {p : Pos} {Ty : String} {rr : RV} {f : List T → Option T} {rs : List Dr} (hc : CallR X (.type Ty) rr) (o : ROp X.K rr f) (ha : RA X pv (e :: es) rs) (hv : bootBuiltins x = some (.type Ty)) (hm : X.mg x = none) (hg : Gl X x := by rfl) (hn : x ≠ "__name__" := by decide) (hdb : (x == ("__debug__" : Str)) = false := by decide)
    (he : starEach (e :: es) X.env = (false, eval e X.env) :: starEach es X.env := by rfl) (hpl : (backTo pos (starEach es X.env)).any (·.1) = false := by rfl) : RE X pv (.Call (.Name x p) (e :: es) [] pos) (rOpN f rs) :=
  weakE (pe_callTy hc hg hm hv ha.run hn hdb he hpl) fun σ H Q ⟨M, F, ρ, S, t, e, q⟩ => by
    obtain ⟨ts, e1, e2⟩ := jjz e
    exact ⟨M, F, ρ, S, ts, e1, fun vs rb => o H M vs ts t Q rb e2 q⟩
theorem jlk {x : Str} {p : Pos} {Ty : String} {rr : RV} {f : List T → Option T} {rs : List Dr} (hc : CallR X (.type Ty) rr) (o : BOp X.K rr f) (ha : RA X pv (e :: es) rs) (hv : bootBuiltins x = some (.type Ty)) (hm : X.mg x = none) (hg : Gl X x := by rfl) (hn : x ≠ "__name__" := by decide) (hdb : (x == ("__debug__" : Str)) = false := by decide)
    (he : starEach (e :: es) X.env = (false, eval e X.env) :: starEach es X.env := by rfl) (hpl : (backTo pos (starEach es X.env)).any (·.1) = false := by rfl) : LE X pv W (.Call (.Name x p) (e :: es) [] pos) (bOp f rs) :=
  weakE (pe_callTy hc hg hm hv ha.run hn hdb he hpl) fun σ H Q ⟨M, F, ρ, S, q⟩ => by
    obtain ⟨ts, t, e1, e2, q⟩ := bOp_ok q
    exact ⟨M, F, ρ, S, ts, e1, fun vs rb => finB o S rb e2 q⟩
theorem b_bin {op : Operator} {rr : R2} {f : List T → Option T} {r s : Dr} (ho : OpR X (binaryOp op) rr) (o : BOp X.K (r2L rr) f) (ha : RE X pv a r) (hb : RE X pv b s) : LE X pv W (.BinOp a op b pos) (bOp f [r, s]) :=
  weakE (pe_op ho ha hb) fun σ H Q ⟨M, F, ρ, S, q⟩ => by
    obtain ⟨ts, t, e1, e2, q⟩ := bOp_ok q
    cases h1 : r ρ with
    | none => simp [List.mapM_cons, h1] at e1
    | some x =>
      cases h2 : s ρ with
      | none => simp [List.mapM_cons, h1, h2] at e1
      | some y =>
        simp [List.mapM_cons, h1, h2] at e1
        subst e1
        exact rr2 S h1 h2 fun v w fv fw r1 r2 => finB (vs := [v, w]) o S (.cons r1 (.cons r2 .nil)) e2 q
end
end Q
namespace Q
open PySem PySem.Spec PyProof.Rows L2
variable [tbI : Tbl]
include tbI
def bTest (d : De) : Db := fun ρ => (d ρ).bind fun x => match x.1 with | .bl c => .ok (c, x.2) | _ => .bad
def rTest (r : Dr) : Db := fun ρ => match r ρ with | some (.bl c) => .ok (c, ρ) | _ => .bad
def bNot (d : Db) : Db := fun ρ => (d ρ).bind fun x => .ok (!x.1, x.2)
def bAnd (d d' : Db) : Db := fun ρ => (d ρ).bind fun x => if x.1 = true then d' x.2 else .ok (false, x.2)
def bOr (d d' : Db) : Db := fun ρ => (d ρ).bind fun x => if x.1 = true then .ok (true, x.2) else d' x.2
def dAnd (d d' : De) : De := fun ρ => (d ρ).bind fun x => match x.1 with | .bl true => d' x.2 | .bl false => .ok (.bl false, x.2) | _ => .bad
def dOr (d d' : De) : De := fun ρ => (d ρ).bind fun x => match x.1 with | .bl true => .ok (.bl true, x.2) | .bl false => d' x.2 | _ => .bad
def dNot (d : De) : De := fun ρ => (d ρ).bind fun x => match x.1 with | .bl c => .ok (.bl (!c), x.2) | _ => .bad
section
variable {X : Cx} {pv : Pins} {W : WX} {e a b c : Expr} {es rest : List Expr} {pos : Pos} {d da db dc : De} {r s u : Dr} {t t' : Db}
variable {K : PySem.W.Frag} {mg : Str → Option Value} {H H1 H2 : Hp} {M M1 M2 : MS} {F F1 F2 G fv fp : List Addr} {σ : Sg} {ρ ρ1 : Env} {vs : List V} {ts : List T}
theorem jhb {v : V} {c : Bool} (h : Rep K H M fv v (.bl c)) : v = .bl c ∧ fv = [] := by cases h; exact ⟨rfl, rfl⟩
theorem bTest_Q {Q : Bool → Hp → Prop} (q : VB K mg pv σ H M F W Q (bTest d ρ)) : VQ K mg pv σ H M F W (fun x H' => ∃ c, x = .bl c ∧ Q c H') (d ρ) := by
  unfold bTest at q
  cases e : d ρ with
  | bad => rw [e] at q; exact q
  | ex x ρ' => rw [e] at q; exact q
  | ok x =>
    rw [e] at q
    obtain ⟨y, ρ'⟩ := x
    cases y with
    | bl c =>
      intro v H' M' fv F' h1 h2 h3 h4
      obtain ⟨z1, z2⟩ := jhb h1
      subst z2
      exact ⟨c, z1, q H' M' F' h2 (by simpa using h4)⟩
    | _ => exact q.elim
theorem lt_val (h : LE X pv W e d) (he : ∀ whole, isTrue e X.env whole = (do let v ← whole; standAt e.pos; holding [v] (truthy v)) := by intro _; rfl) : LT X pv W e (bTest d) :=
  weakT (pt_val h he) fun σ H Q ⟨M, F, ρ, S, q⟩ => ⟨M, F, ρ, S, bTest_Q q⟩
theorem jio {Q : Bool → Hp → Prop} (q : VB K mg pv σ H M F W Q (rTest r ρ)) : ∃ c, r ρ = some (.bl c) ∧ VB K mg pv σ H M F W Q (.ok (c, ρ)) := by
  unfold rTest at q
  split at q
  · rename_i c e; exact ⟨c, e, q⟩
  · exact q.elim
theorem jni (h : RE X pv e r) (he : ∀ whole, isTrue e X.env whole = (do let v ← whole; standAt e.pos; holding [v] (truthy v)) := by intro _; rfl) : LT X pv W e (rTest r) :=
  weakT (pt_val h he) fun σ H Q ⟨M, F, ρ, S, q⟩ => by
    obtain ⟨c, e1, q⟩ := jio q
    exact ⟨M, F, ρ, S, _, e1, fun v fv h => ⟨c, (jhb h).1, q H M F S .refl⟩⟩
theorem jll {op : CmpOp} {rr : R2} {f : List T → Option T} (ho : OpR X (compareOp op) rr) (o : VOp X.K (r2L rr) f) (ha : LE X pv W a da) (hb : LE X pv W b db) (hm : behindInMarks op b = false := by first | exact nomark _ | with_unfolding_all rfl) : LT X pv W (.Compare a [op] [b] pos) (bTest (vOp2 f da db)) :=
  weakT (pt_cmpR ho ha hb hm) fun σ H Q ⟨M, F, ρ, S, q⟩ => fin2 o S (bTest_Q q)
theorem jgg {op : CmpOp} {rr : R2} {f : List T → Option T} (ho : OpR X (compareOp op) rr) (o : ROp X.K (r2L rr) f) (ha : RE X pv a r) (hb : RE X pv b s) (hm : behindInMarks op b = false := by first | exact nomark _ | with_unfolding_all rfl) : LT X pv W (.Compare a [op] [b] pos) (rTest (rOp2 f r s)) :=
  weakT (pt_cmpR ho ha hb hm) fun σ H Q ⟨M, F, ρ, S, q⟩ => by
    obtain ⟨c, e1, q⟩ := jio q
    obtain ⟨x, y, e1, e2, e3⟩ := jei e1
    exact rr2 S e1 e2 fun v w fv fw r1 r2 => o H M [v, w] [x, y] _ _ (.cons r1 (.cons r2 .nil)) e3 fun v fv h => ⟨c, (jhb h).1, q H M F S .refl⟩
def jcs (f f' : List T → Option T) (r s u : Dr) : Dr := fun ρ => match rOp2 f r s ρ with | some (.bl true) => rOp2 f' s u ρ | some (.bl false) => some (.bl false) | _ => none
theorem re_chain {op op' : CmpOp} {rr rr' : R2} {f f' : List T → Option T} (ho : OpR X (compareOp op) rr) (ho' : OpR X (compareOp op') rr') (o : ROp X.K (r2L rr) f) (o' : ROp X.K (r2L rr') f') (ha : RE X pv a r) (hb : RE X pv b s) (hc : RE X pv c u)
    (hm : lastMarks [op, op'] [b, c] = false := by with_unfolding_all rfl) : RE X pv (.Compare a [op, op'] [b, c] pos) (jcs f f' r s u) :=
  weakE (pe_chain ho ho' ha hb hc hm) fun σ H Q ⟨M, F, ρ, S, t, e, q⟩ => by
    unfold jcs at e
    split at e
    · rename_i e0
      obtain ⟨x, y, e1, e2, e3⟩ := jei e0
      obtain ⟨y', z, g1, g2, g3⟩ := jei e
      rw [e2] at g1; cases g1
      exact rr2 S e1 e2 fun v w fv fw r1 r2 => o H M [v, w] [x, y] _ _ (.cons r1 (.cons r2 .nil)) e3 fun k fv h => ⟨true, (jhb h).1, by rw [if_pos rfl]; exact ⟨M, F, ρ, S, z, g2, fun v' fv' r3 => o' H M [w, v'] [y, z] t Q (.cons r2 (.cons r3 .nil)) g3 q⟩⟩
    · rename_i e0
      obtain ⟨x, y, e1, e2, e3⟩ := jei e0
      cases e
      exact rr2 S e1 e2 fun v w fv fw r1 r2 => o H M [v, w] [x, y] _ _ (.cons r1 (.cons r2 .nil)) e3 fun k fv h => ⟨false, (jhb h).1, by rw [if_neg Bool.false_ne_true]; exact q _ [] (.bl false)⟩
    · cases e
theorem jnj {op op' : CmpOp} {rr rr' : R2} {f f' : List T → Option T} (ho : OpR X (compareOp op) rr) (ho' : OpR X (compareOp op') rr') (o : ROp X.K (r2L rr) f) (o' : ROp X.K (r2L rr') f') (ha : RE X pv a r) (hb : RE X pv b s) (hc : RE X pv c u)
    (hm : lastMarks [op, op'] [b, c] = false := by with_unfolding_all rfl) : LT X pv W (.Compare a [op, op'] [b, c] pos) (rTest (jcs f f' r s u)) :=
  weakT (pt_chain ho ho' ha hb hc hm) fun σ H Q ⟨M, F, ρ, S, q⟩ => by
    obtain ⟨k, e, q⟩ := jio q
    unfold jcs at e
    split at e
    · rename_i e0
      obtain ⟨x, y, e1, e2, e3⟩ := jei e0
      obtain ⟨y', z, g1, g2, g3⟩ := jei e
      rw [e2] at g1; cases g1
      exact rr2 S e1 e2 fun v w fv fw r1 r2 => o H M [v, w] [x, y] _ _ (.cons r1 (.cons r2 .nil)) e3 fun k' fv h => ⟨true, (jhb h).1, by rw [if_pos rfl]; exact ⟨M, F, ρ, S, z, g2, fun v' fv' r3 => o' H M [w, v'] [y, z] _ _ (.cons r2 (.cons r3 .nil)) g3 fun v fv h => ⟨k, (jhb h).1, q H M F S .refl⟩⟩⟩
    · rename_i e0
      obtain ⟨x, y, e1, e2, e3⟩ := jei e0
      cases e
      exact rr2 S e1 e2 fun v w fv fw r1 r2 => o H M [v, w] [x, y] _ _ (.cons r1 (.cons r2 .nil)) e3 fun k fv h => ⟨false, (jhb h).1, by rw [if_neg Bool.false_ne_true]; exact ⟨false, rfl, q H M F S .refl⟩⟩
    · cases e
theorem stepB {α : Type} {P : R α → Prop} {k : Bool → Env → R α} (S : Sta X.K pv H M F σ ρ)
    (hex : ∀ x ρ', P (.ex x ρ') → ∀ cls d H' M' F', ExR X.mg H' cls d x → Sta X.K pv H' M' F' σ ρ' → Stp H M F H' M' F' → W cls d σ H') (hbad : ¬ P .bad) (h : P ((t ρ).bind fun a => k a.1 a.2)) :
    TBd X pv W t σ H (fun b H1 => ∃ M1 F1 ρ1, Sta X.K pv H1 M1 F1 σ ρ1 ∧ Stp H M F H1 M1 F1 ∧ P (k b ρ1)) := by
  refine ⟨M, F, ρ, S, ?_⟩
  cases e : t ρ with
  | bad => rw [e] at h; exact hbad h
  | ex x ρ' => rw [e] at h; exact hex x ρ' h
  | ok a => rw [e] at h; exact fun H' M' F' h1 h2 => ⟨M', F', a.2, h1, h2, h⟩
theorem VB.rebase {Q : Bool → Hp → Prop} {x : R (Bool × Env)} (st : Stp H M F H1 M1 F1) (h : VB K mg pv σ H M F W Q x) : VB K mg pv σ H1 M1 F1 W Q x := by
  cases x with
  | bad => exact h
  | ex x ρ' => exact fun cls d H' M' F' a b c => h cls d H' M' F' a b (st.trans0 c)
  | ok a => exact fun H' M' F' a b => h H' M' F' a (st.trans0 b)
theorem VQ.rebase {Q : V → Hp → Prop} {x : R (T × Env)} (st : Stp H M F H1 M1 F1) (h : VQ K mg pv σ H M F W Q x) : VQ K mg pv σ H1 M1 F1 W Q x := by
  cases x with
  | bad => exact h
  | ex x ρ' => exact fun cls d H' M' F' a b c => h cls d H' M' F' a b (st.trans0 c)
  | ok a => exact fun v H' M' fv F' a b c d => h v H' M' fv F' a b c (st.trans0 d)
theorem jkt (h : LT X pv W a t) : LT X pv W (.UnaryOp .Not a pos) (bNot t) :=
  weakT (pt_not h) fun σ H Q ⟨M, F, ρ, S, q⟩ => (stepB (k := fun b ρ1 => .ok (!b, ρ1)) (P := VB X.K X.mg pv σ H M F W Q) S exB id q).mono fun b H1 ⟨M1, F1, ρ1, S1, st, p⟩ => p H1 M1 F1 S1 st
theorem lw_and1 (h : LT X pv W a t) : LW X pv W (.BoolOp .And [a] pos) t := pw_and1 h
theorem jnk (h : LT X pv W a t) : LW X pv W (.BoolOp .Or [a] pos) t := pw_or1 h
theorem lw_and (ha : LT X pv W a t) (hb : LW X pv W (.BoolOp .And (b :: rest) pos) t') : LW X pv W (.BoolOp .And (a :: b :: rest) pos) (bAnd t t') :=
  weakW (pw_and ha hb) fun σ H Q ⟨M, F, ρ, S, q⟩ => (stepB (k := fun b ρ1 => if b = true then t' ρ1 else .ok (false, ρ1)) (P := VB X.K X.mg pv σ H M F W Q) S exB id q).mono fun b H1 ⟨M1, F1, ρ1, S1, st, p⟩ => by
    cases b with
    | true => rw [if_pos rfl] at p ⊢; exact ⟨M1, F1, ρ1, S1, p.rebase st⟩
    | false => rw [if_neg Bool.false_ne_true] at p ⊢; exact p H1 M1 F1 S1 st
theorem lw_or (ha : LT X pv W a t) (hb : LW X pv W (.BoolOp .Or (b :: rest) pos) t') : LW X pv W (.BoolOp .Or (a :: b :: rest) pos) (bOr t t') :=
  weakW (pw_or ha hb) fun σ H Q ⟨M, F, ρ, S, q⟩ => (stepB (k := fun b ρ1 => if b = true then .ok (true, ρ1) else t' ρ1) (P := VB X.K X.mg pv σ H M F W Q) S exB id q).mono fun b H1 ⟨M1, F1, ρ1, S1, st, p⟩ => by
    cases b with
    | true => rw [if_pos rfl] at p ⊢; exact p H1 M1 F1 S1 st
    | false => rw [if_neg Bool.false_ne_true] at p ⊢; exact ⟨M1, F1, ρ1, S1, p.rebase st⟩
theorem jip (h : LW X pv W e t) : LT X pv W e t := h.pt
theorem l_one {op} (h : LE X pv W a d) : LE X pv W (.BoolOp op [a] pos) d := pe_one h
theorem stepE1 {α : Type} {P : R α → Prop} {k : T → Env → R α} (S : Sta X.K pv H M F σ ρ)
    (hex : ∀ x ρ', P (.ex x ρ') → ∀ cls d H' M' F', ExR X.mg H' cls d x → Sta X.K pv H' M' F' σ ρ' → Stp H M F H' M' F' → W cls d σ H') (hbad : ¬ P .bad) (h : P ((d ρ).bind fun a => k a.1 a.2)) :
    TEd X pv W d σ H (fun v H1 => ∃ t1 ρ1 M1 fv1 F1, Rep X.K H1 M1 fv1 v t1 ∧ Sta X.K pv H1 M1 F1 σ ρ1 ∧ (fv1 ++ F1).Nodup ∧ Stp H M F H1 M1 (fv1 ++ F1) ∧ P (k t1 ρ1)) := by
  refine ⟨M, F, ρ, S, ?_⟩
  cases e : d ρ with
  | bad => rw [e] at h; exact hbad h
  | ex x ρ' => rw [e] at h; exact hex x ρ' h
  | ok a => rw [e] at h; exact fun v H' M' fv F' h1 h2 h3 h4 => ⟨a.1, a.2, M', fv, F', h1, h2, h3, h4, h⟩
theorem l_and (ha : LE X pv W a da) (hb : LE X pv W (.BoolOp .And (b :: rest) pos) db) : LE X pv W (.BoolOp .And (a :: b :: rest) pos) (dAnd da db) :=
  weakE (pe_and ha hb) fun σ H Q ⟨M, F, ρ, S, q⟩ => (stepE1 (k := fun x ρ1 => match x with | .bl true => db ρ1 | .bl false => .ok (.bl false, ρ1) | _ => .bad) (P := VQ X.K X.mg pv σ H M F W Q) S exQ id q).mono fun v H1 ⟨t1, ρ1, M1, fv1, F1, h1, S1, n1, st, p⟩ => by
    cases t1 with
    | bl k =>
      obtain ⟨z1, z2⟩ := jhb h1
      subst z2
      refine ⟨k, z1, ?_⟩
      cases k with
      | true => rw [if_pos rfl]; exact ⟨M1, F1, ρ1, S1, VQ.rebase (by simpa using st) p⟩
      | false => rw [if_neg Bool.false_ne_true]; exact p _ H1 M1 [] F1 (.bl false) S1 n1 st
    | _ => exact p.elim
end
inductive Fl where
  | nx (ρ : Env) | rt (t : T) (ρ : Env) | bk (ρ : Env) | ct (ρ : Env) | ex (x : Ex) (ρ : Env) | bad
abbrev Ds := Env → Fl
def VS (K : PySem.W.Frag) (mg : Str → Option Value) (pv : Pins) (H : Hp) (M : MS) (F : List Addr) (W : WX) (D : Ends) : Fl → Prop
  | .nx ρ' => ∀ σ' H' M' F', Sta K pv H' M' F' σ' ρ' → Stp H M F H' M' F' → D.nx σ' H'
  | .bk ρ' => ∀ σ' H' M' F', Sta K pv H' M' F' σ' ρ' → Stp H M F H' M' F' → D.bk σ' H'
  | .ct ρ' => ∀ σ' H' M' F', Sta K pv H' M' F' σ' ρ' → Stp H M F H' M' F' → D.ct σ' H'
  | .rt t ρ' => ∀ v σ' H' M' fv F', Rep K H' M' fv v t → Sta K pv H' M' F' σ' ρ' → (fv ++ F').Nodup → Stp H M F H' M' (fv ++ F') → D.rt v H'
  | .ex x ρ' => ∀ cls d σ' H' M' F', ExR mg H' cls d x → Sta K pv H' M' F' σ' ρ' → Stp H M F H' M' F' → W cls d σ' H'
  | .bad => False
def TSd (X : Cx) (pv : Pins) (W : WX) (d : Ds) : TS := fun D σ H => ∃ M F ρ, Sta X.K pv H M F σ ρ ∧ VS X.K X.mg pv H M F W D (d ρ)
abbrev LS (X : Cx) (pv : Pins) (W : WX) (st : Stmt) (d : Ds) : Prop := PS X st (TSd X pv W d)
abbrev LSs (X : Cx) (pv : Pins) (W : WX) (st : List Stmt) (d : Ds) : Prop := PSs X st (TSd X pv W d)
theorem weakS {X : Cx} {st : Stmt} {t t' : TS} (h : PS X st t) (w : ∀ D σ H, t' D σ H → t D σ H) : PS X st t' := ⟨fun pins s σ H D I q => h.run pins s σ H D I (w D σ H q)⟩
theorem weakSs {X : Cx} {st : List Stmt} {t t' : TS} (h : PSs X st t) (w : ∀ D σ H, t' D σ H → t D σ H) : PSs X st t' := ⟨fun pins s σ H D I q => h.run pins s σ H D I (w D σ H q)⟩
def sNil : Ds := .nx
def sSeq (a b : Ds) : Ds := fun ρ => match a ρ with | .nx ρ' => b ρ' | f => f
def R.fl {α : Type} : R α → (α → Fl) → Fl
  | .ok a, k => k a
  | .ex x ρ, _ => .ex x ρ
  | .bad, _ => .bad
def sSet (i : Nat) (d : De) : Ds := fun ρ => (d ρ).fl fun x => .nx (x.2.set i (some x.1))
def sExpr (d : De) : Ds := fun ρ => (d ρ).fl fun x => .nx x.2
def sRet (d : De) : Ds := fun ρ => (d ρ).fl fun x => .rt x.1 x.2
def sRetN : Ds := fun ρ => .rt .non ρ
def sIf (c : Db) (a b : Ds) : Ds := fun ρ => (c ρ).fl fun x => if x.1 = true then a x.2 else b x.2
def wipeE (ρ : Env) : List Nat → Env
  | [] => ρ
  | i :: is => (wipeE ρ is).set i none
def jar (is : List Nat) (a : Ds) : Ds := fun ρ => match a ρ with
  | .nx ρ' => .nx (wipeE ρ' is)
  | .ct ρ' => .ct (wipeE ρ' is)
  | .bk ρ' => .bk (wipeE ρ' is)
  | f => f
def wLoop (c : Db) (b : Ds) : Nat → Ds
  | 0, _ => .bad
  | n + 1, ρ => (c ρ).fl fun x => if x.1 = true then (match b x.2 with | .nx ρ' => wLoop c b n ρ' | .ct ρ' => wLoop c b n ρ' | .bk ρ' => .nx ρ' | f => f) else .nx x.2
def fuel : Nat := 1000000
def sWhile (c : Db) (b : Ds) : Ds := wLoop c b fuel
section
variable {X : Cx} {pv : Pins} {W : WX} {e a b c : Expr} {st : Stmt} {sts rest : List Stmt} {pos : Pos} {d da db : De} {t t' : Db} {x y : Ds}
variable {K : PySem.W.Frag} {mg : Str → Option Value} {H H1 H2 : Hp} {M M1 M2 : MS} {F F1 F2 G fv fp : List Addr} {σ : Sg} {ρ ρ1 : Env} {D : Ends}
theorem VS.rebase {f : Fl} (s : Stp H M F H1 M1 F1) (h : VS K mg pv H M F W D f) : VS K mg pv H1 M1 F1 W D f := by
  cases f with
  | bad => exact h
  | nx ρ' => exact fun σ' H' M' F' a b => h σ' H' M' F' a (s.trans0 b)
  | bk ρ' => exact fun σ' H' M' F' a b => h σ' H' M' F' a (s.trans0 b)
  | ct ρ' => exact fun σ' H' M' F' a b => h σ' H' M' F' a (s.trans0 b)
  | rt t ρ' => exact fun v σ' H' M' fv F' a b c g => h v σ' H' M' fv F' a b c (s.trans0 g)
  | ex x ρ' => exact fun cls d σ' H' M' F' a b c => h cls d σ' H' M' F' a b (s.trans0 c)
theorem jfl : LSs X pv W [] sNil := weakSs pss_nil fun D σ H ⟨M, F, ρ, S, q⟩ => q σ H M F S .refl
theorem jac (h1 : LS X pv W st x) (h2 : LSs X pv W rest y) : LSs X pv W (st :: rest) (sSeq x y) :=
  weakSs (pss_cons h1 h2) fun D σ H ⟨M, F, ρ, S, q⟩ => by
    refine ⟨M, F, ρ, S, ?_⟩
    unfold sSeq at q
    cases e : x ρ with
    | nx ρ' => rw [e] at q; exact fun σ' H' M' F' a b => ⟨M', F', ρ', a, q.rebase b⟩
    | bad => rw [e] at q; exact q
    | bk ρ' => rw [e] at q; exact q
    | ct ρ' => rw [e] at q; exact q
    | rt t ρ' => rw [e] at q; exact q
    | ex z ρ' => rw [e] at q; exact q
theorem jbj (h1 : LS X pv W st x) : LSs X pv W [st] x := pss_one h1
theorem stepF {k : T → Env → Fl} (S : Sta X.K pv H M F σ ρ) (h : VS X.K X.mg pv H M F W D ((d ρ).fl fun a => k a.1 a.2)) :
    TEd X pv W d σ H (fun v H1 => ∃ t1 ρ1 M1 fv1 F1, Rep X.K H1 M1 fv1 v t1 ∧ Sta X.K pv H1 M1 F1 σ ρ1 ∧ (fv1 ++ F1).Nodup ∧ Stp H M F H1 M1 (fv1 ++ F1) ∧ VS X.K X.mg pv H M F W D (k t1 ρ1)) := by
  refine ⟨M, F, ρ, S, ?_⟩
  cases e : d ρ with
  | bad => rw [e] at h; exact h
  | ex x ρ' => rw [e] at h; exact fun cls dd H' M' F' a b c => h cls dd σ H' M' F' a b c
  | ok a => rw [e] at h; exact fun v H' M' fv F' h1 h2 h3 h4 => ⟨a.1, a.2, M', fv, F', h1, h2, h3, h4, h⟩
theorem Sta.slot (S : Sta K pv H M F σ ρ) {i : Nat} {v : V} {t : T} (hp : pv i = none) (r : Rep K H M fv v t) (n : (fv ++ F).Nodup) : ∃ F', Sta K pv H M F' (σ.set i (some v)) (ρ.set i (some t)) ∧ ∀ a ∈ F', a ∈ fv ++ F := by
  have pin : ∀ j w, pv j = some w → (σ.set i (some v))[j]? = some (some w) := fun j w e => by
    by_cases z : i = j
    · subst z; rw [hp] at e; cases e
    · rw [List.getElem?_set_ne z]; exact S.pin j w e
  by_cases hl : i < ρ.length
  · obtain ⟨G, h1, h2⟩ := S.rep.drop i (some v)
    obtain ⟨F', h3, p⟩ := h1.put (i := i) (by rw [List.getElem?_set_self hl]) r
    rw [List.set_set, List.set_set] at h3
    have nG : (fv ++ G).Nodup := n.sublist (List.Sublist.append (.refl _) h2)
    exact ⟨F', ⟨h3, p.nodup_iff.mpr nG, pin⟩, fun a ha => (List.mem_append.mp (p.mem_iff.mp ha)).elim (List.mem_append_left _) fun z => List.mem_append_right _ (h2.subset z)⟩
  · have l := S.rep.length
    have e1 : ρ.set i (some t) = ρ := List.set_eq_of_length_le (by omega)
    have e2 : σ.set i (some v) = σ := List.set_eq_of_length_le (by omega)
    rw [e1]
    exact ⟨F, ⟨by rw [e2]; exact S.rep, S.nd, pin⟩, fun a ha => List.mem_append_right _ ha⟩
theorem jbf {i : Nat} {z : Str} {pos' : Pos} (hN : X.N.Nodup) (he : LE X pv W e d) (hi : X.N[i]? = some z := by rfl) (hx : Loc X.env.scope z := by first | exact .inl rfl | exact .inr rfl) (hp : pv i = none := by rfl) (hs : swapsWith e (some (.Name z pos')) pos.line X.env = pure false := by rfl) (hf : X.fn z = true ∨ X.env.scope.names.lookup z = some .local := by first | exact .inl rfl | exact .inr rfl | assumption) :
    LS X pv W (.Assign [.Name z pos'] e pos) (sSet i d) :=
  weakS (ps_set hN hi hx he hs hf) fun D σ H ⟨M, F, ρ, S, q⟩ => (stepF (k := fun t ρ1 => .nx (ρ1.set i (some t))) S q).mono fun v H1 ⟨t1, ρ1, M1, fv1, F1, h1, S1, n1, st, p⟩ => by
    obtain ⟨F', S', h⟩ := S1.slot hp h1 n1
    exact p _ H1 M1 F' S' (st.sub h)
theorem jd2 (he : LE X pv W e d) (hs : swapsWith e none pos.line X.env = pure false := by rfl) : LS X pv W (.Expr e pos) (sExpr d) :=
  weakS (ps_expr he hs) fun D σ H ⟨M, F, ρ, S, q⟩ => (stepF (k := fun t ρ1 => .nx ρ1) S q).mono fun v H1 ⟨t1, ρ1, M1, fv1, F1, h1, S1, n1, st, p⟩ => p σ H1 M1 F1 S1 (st.sub fun a ha => List.mem_append_right _ ha)
theorem jc0 (he : LE X pv W e d) : LS X pv W (.Return (some e) pos) (sRet d) :=
  weakS (ps_ret he) fun D σ H ⟨M, F, ρ, S, q⟩ => (stepF (k := fun t ρ1 => .rt t ρ1) S q).mono fun v H1 ⟨t1, ρ1, M1, fv1, F1, h1, S1, n1, st, p⟩ => p v σ H1 M1 fv1 F1 h1 S1 n1 st
theorem stepG {k : Bool → Env → Fl} (S : Sta X.K pv H M F σ ρ) (h : VS X.K X.mg pv H M F W D ((t ρ).fl fun a => k a.1 a.2)) :
    TBd X pv W t σ H (fun b H1 => ∃ M1 F1 ρ1, Sta X.K pv H1 M1 F1 σ ρ1 ∧ Stp H M F H1 M1 F1 ∧ VS X.K X.mg pv H M F W D (k b ρ1)) := by
  refine ⟨M, F, ρ, S, ?_⟩
  cases e : t ρ with
  | bad => rw [e] at h; exact h
  | ex x ρ' => rw [e] at h; exact fun cls dd H' M' F' a b c => h cls dd σ H' M' F' a b c
  | ok a => rw [e] at h; exact fun H' M' F' h1 h2 => ⟨M', F', a.2, h1, h2, h⟩
theorem ls_if (hc : LT X pv W c t) (ha : LSs X pv W sts x) (hb : LSs X pv W rest y) : LS X pv W (.If c sts rest pos) (sIf t x y) :=
  weakS (ps_if hc ha hb) fun D σ H ⟨M, F, ρ, S, q⟩ => (stepG (k := fun b ρ1 => if b = true then x ρ1 else y ρ1) S q).mono fun b H1 ⟨M1, F1, ρ1, S1, st, p⟩ => by
    cases b with
    | true => rw [if_pos rfl] at p ⊢; exact ⟨M1, F1, ρ1, S1, p.rebase st⟩
    | false => rw [if_neg Bool.false_ne_true] at p ⊢; exact ⟨M1, F1, ρ1, S1, p.rebase st⟩
theorem Sta.wipe (S : Sta K pv H M F σ ρ) : ∀ is : List Nat, ∃ F', Sta K pv H M F' σ (wipeE ρ is) ∧ List.Sublist F' F
  | [] => ⟨F, S, .refl _⟩
  | i :: is => by
    obtain ⟨F1, S1, h1⟩ := S.wipe is
    by_cases hl : i < σ.length
    · obtain ⟨G, r, h2⟩ := S1.rep.drop i (σ[i])
      rw [jin (by simp [hl])] at r
      exact ⟨G, ⟨r, S1.nd.sublist h2, S.pin⟩, h2.trans h1⟩
    · have e : wipeE ρ (i :: is) = wipeE ρ is := List.set_eq_of_length_le (by have := S1.rep.length; omega)
      rw [e]
      exact ⟨F1, S1, h1⟩
theorem VS.forget {is : List Nat} (h : VS K mg pv H M F W D (match x ρ with | .nx ρ' => .nx (wipeE ρ' is) | .ct ρ' => .ct (wipeE ρ' is) | .bk ρ' => .bk (wipeE ρ' is) | f => f)) : VS K mg pv H M F W D (x ρ) := by
  cases e : x ρ with
  | nx ρ' =>
    rw [e] at h
    intro σ' H' M' F' a b
    obtain ⟨F2, S2, s⟩ := a.wipe is
    exact h σ' H' M' F2 S2 (b.sub fun z hz => s.subset hz)
  | ct ρ' =>
    rw [e] at h
    intro σ' H' M' F' a b
    obtain ⟨F2, S2, s⟩ := a.wipe is
    exact h σ' H' M' F2 S2 (b.sub fun z hz => s.subset hz)
  | bk ρ' =>
    rw [e] at h
    intro σ' H' M' F' a b
    obtain ⟨F2, S2, s⟩ := a.wipe is
    exact h σ' H' M' F2 S2 (b.sub fun z hz => s.subset hz)
  | bad => rw [e] at h; exact h
  | rt t ρ' => rw [e] at h; exact h
  | ex z ρ' => rw [e] at h; exact h
theorem jd7 (is : List Nat) (h : LSs X pv W sts x) : LSs X pv W sts (jar is x) := weakSs h fun D σ H ⟨M, F, ρ, S, q⟩ => ⟨M, F, ρ, S, VS.forget q⟩
theorem stepG2 {k : Bool → Env → Fl} (S : Sta X.K pv H1 M1 F1 σ ρ1) (st : Stp H M F H1 M1 F1) (h : VS X.K X.mg pv H M F W D ((t ρ1).fl fun a => k a.1 a.2)) :
    TBd X pv W t σ H1 (fun b H2 => ∃ M2 F2 ρ2, Sta X.K pv H2 M2 F2 σ ρ2 ∧ Stp H M F H2 M2 F2 ∧ VS X.K X.mg pv H M F W D (k b ρ2)) := by
  refine ⟨M1, F1, ρ1, S, ?_⟩
  cases e : t ρ1 with
  | bad => rw [e] at h; exact h
  | ex x ρ' => rw [e] at h; exact fun cls dd H' M' F' a b c => h cls dd σ H' M' F' a b (st.trans0 c)
  | ok a => rw [e] at h; exact fun H' M' F' h1 h2 => ⟨M', F', a.2, h1, st.trans0 h2, h⟩
theorem VS.turn {f : Fl} {k : Ds} {N : Sg → Hp → Prop} (s : Stp H M F H1 M1 F1)
    (h : VS K mg pv H M F W D (match f with | .nx ρ' => k ρ' | .ct ρ' => k ρ' | .bk ρ' => .nx ρ' | f => f))
    (hN : ∀ σ' H' M' F' ρ', Sta K pv H' M' F' σ' ρ' → Stp H M F H' M' F' → VS K mg pv H M F W D (k ρ') → Stp H1 M1 F1 H' M' F' → N σ' H') :
    VS K mg pv H1 M1 F1 W { D with nx := N, ct := N, bk := D.nx } f := by
  cases f with
  | bad => exact h
  | nx ρ' => exact fun σ' H' M' F' a b => hN σ' H' M' F' ρ' a (s.trans0 b) h b
  | ct ρ' => exact fun σ' H' M' F' a b => hN σ' H' M' F' ρ' a (s.trans0 b) h b
  | bk ρ' => exact fun σ' H' M' F' a b => h σ' H' M' F' a (s.trans0 b)
  | rt t ρ' => exact fun v σ' H' M' fv F' a b c g => h v σ' H' M' fv F' a b c (s.trans0 g)
  | ex x ρ' => exact fun cls d σ' H' M' F' a b c => h cls d σ' H' M' F' a b (s.trans0 c)
theorem ls_while (hp : PassesOwn (model X.prog X.w) X.A X.env X.xe) (hc : LT X pv W c t) (hb : LSs X pv W sts x) : LS X pv W (.While c sts [] pos) (sWhile t x) :=
  weakS (ps_while hp hc hb) fun D σ H ⟨M, F, ρ, S, q⟩ => by
    refine ⟨fun m σ1 H1 => ∃ M1 F1 ρ1, Sta X.K pv H1 M1 F1 σ1 ρ1 ∧ Stp H M F H1 M1 F1 ∧ VS X.K X.mg pv H M F W D (wLoop t x m ρ1), ⟨fuel, M, F, ρ, S, .refl, q⟩, ?_⟩
    rintro m σ1 H1 ⟨M1, F1, ρ1, S1, st1, q1⟩
    cases m with
    | zero => exact q1.elim
    | succ m =>
      refine (stepG2 (k := fun b ρ2 => if b = true then (match x ρ2 with | .nx ρ' => wLoop t x m ρ' | .ct ρ' => wLoop t x m ρ' | .bk ρ' => .nx ρ' | f => f) else .nx ρ2) S1 st1 q1).mono fun b H2 ⟨M2, F2, ρ2, S2, st2, p⟩ => ?_
      cases b with
      | false => rw [if_neg Bool.false_ne_true] at p ⊢; exact p σ1 H2 M2 F2 S2 st2
      | true =>
        rw [if_pos rfl] at p ⊢
        refine ⟨fun σ3 H3 => ∃ M3 F3 ρ3, Sta X.K pv H3 M3 F3 σ3 ρ3 ∧ Stp H M F H3 M3 F3 ∧ VS X.K X.mg pv H M F W D (wLoop t x m ρ3), fun σ' H' h => ⟨m, Nat.lt_succ_self _, h⟩, M2, F2, ρ2, S2, ?_⟩
        exact VS.turn st2 p fun σ' H' M' F' ρ' a b c _ => ⟨M', F', ρ', a, b, c⟩
def TGd (X : Cx) (pv : Pins) (g : T → Env → Option Env) : TG := fun v σ H Q => ∃ M F ρ t fv, Sta X.K pv H M F σ ρ ∧ Rep X.K H M fv v t ∧ (fv ++ F).Nodup ∧ ∃ ρ', g t ρ = some ρ' ∧ ∀ σ' H' M' F', Sta X.K pv H' M' F' σ' ρ' → Stp H M (fv ++ F) H' M' F' → Q σ' H'
def TGds (X : Cx) (pv : Pins) (g : List T → Env → Option Env) : TGs := fun vs σ H Q => ∃ M F ρ ts fv, Sta X.K pv H M F σ ρ ∧ Reps X.K H M fv vs ts ∧ (fv ++ F).Nodup ∧ ∃ ρ', g ts ρ = some ρ' ∧ ∀ σ' H' M' F', Sta X.K pv H' M' F' σ' ρ' → Stp H M (fv ++ F) H' M' F' → Q σ' H'
abbrev LG (X : Cx) (pv : Pins) (tg : Expr) (g : T → Env → Option Env) : Prop := PG X tg (TGd X pv g)
abbrev LGs (X : Cx) (pv : Pins) (tg : List Expr) (g : List T → Env → Option Env) : Prop := PGs X tg (TGds X pv g)
theorem weakG {X : Cx} {tg : Expr} {t t' : TG} (h : PG X tg t) (w : ∀ v σ H Q, t' v σ H Q → t v σ H Q) : PG X tg t' := ⟨fun pins s σ H v u Q I r q => h.run pins s σ H v u Q I r (w v σ H Q q)⟩
theorem weakGs {X : Cx} {tg : List Expr} {t t' : TGs} (h : PGs X tg t) (w : ∀ v σ H Q, t' v σ H Q → t v σ H Q) : PGs X tg t' := ⟨fun pins s σ H v u Q I r q => h.run pins s σ H v u Q I r (w v σ H Q q)⟩
def gSlot (i : Nat) : T → Env → Option Env := fun t ρ => some (ρ.set i (some t))
def gsNil : List T → Env → Option Env := fun ts ρ => match ts with | [] => some ρ | _ => none
def jbl (g : T → Env → Option Env) (gs : List T → Env → Option Env) : List T → Env → Option Env := fun ts ρ => match ts with | t :: r => (g t ρ).bind (gs r) | [] => none
def gTree (n : Nat) (gs : List T → Env → Option Env) : T → Env → Option Env := fun t ρ => match t with | .tup ts => if ts.length = n then gs ts ρ else none | _ => none
theorem jdn (i : Nat) {z : Str} (hN : X.N.Nodup) (hi : X.N[i]? = some z := by rfl) (hx : Loc X.env.scope z := by first | exact .inl rfl | exact .inr rfl) (hp : pv i = none := by rfl) (hf : X.fn z = true ∨ X.env.scope.names.lookup z = some .local := by first | exact .inl rfl | exact .inr rfl | assumption) : LG X pv (.Name z pos) (gSlot i) :=
  weakG (pg_name hN hi hx hf) fun v σ H Q ⟨M, F, ρ, t, fv, S, r, n, ρ', e, q⟩ => by
    cases e
    obtain ⟨F', S', h⟩ := S.slot hp r n
    exact q _ H M F' S' ⟨.refl, fun a ha => .inl (h a ha)⟩
theorem jmd : LGs X pv [] gsNil := weakGs pgs_nil fun v σ H Q ⟨M, F, ρ, ts, fv, S, r, n, ρ', e, q⟩ => by
  cases r with
  | nil => cases e; exact ⟨rfl, q σ H M F S ⟨.refl, fun a ha => .inl ha⟩⟩
  | cons r rs => cases e
theorem jfm {es : List Expr} {g : T → Env → Option Env} {gs : List T → Env → Option Env} (h1 : LG X pv e g) (h2 : LGs X pv es gs) (hs : (assignEach (e :: es) X.env).map (·.2) = assign e X.env :: (assignEach es X.env).map (·.2) := by rfl) : LGs X pv (e :: es) (jbl g gs) :=
  weakGs (pgs_cons h1 h2 hs) fun v σ H Q ⟨M, F, ρ, ts, fv, S, r, n, ρ', e, q⟩ => by
    cases r with
    | nil => cases e
    | @cons fp fq v1 t1 vs1 ts1 r rs =>
      obtain ⟨ρ1, e1, e2⟩ := Option.bind_eq_some_iff.mp e
      rw [List.append_assoc] at n
      have n' : (fq ++ (fp ++ F)).Nodup := by
        refine (List.Perm.nodup_iff ?_).mp n
        rw [← List.append_assoc, ← List.append_assoc]
        exact List.perm_append_comm.append_right F
      refine ⟨v1, vs1, rfl, M, F, ρ, t1, fp, S, r, n'.sublist (List.sublist_append_right _ _), ρ1, e1, fun σ1 H1 M1 F1 S1 st1 => ?_⟩
      obtain ⟨rs1, dj⟩ := rs.hold (r.own.app S.rep.own) n' st1
      have n1 : (fq ++ F1).Nodup := List.nodup_append.mpr ⟨(List.nodup_append.mp n').1, S1.nd, fun a ha b hb e => dj a ha (e ▸ hb)⟩
      refine ⟨M1, F1, ρ1, ts1, fq, S1, rs1, n1, ρ', e2, fun σ2 H2 M2 F2 S2 st2 => q σ2 H2 M2 F2 S2 ?_⟩
      have stA : Stp H M (fq ++ (fp ++ F)) H1 M1 (fq ++ F1) := ⟨(st1.wide fun a ha => List.mem_append_right _ ha).frm, fun a ha => (List.mem_append.mp ha).elim (fun z => .inl (List.mem_append_left _ z)) fun z => (st1.new a z).imp (List.mem_append_right _) id⟩
      refine (stA.trans0 st2).wide fun a ha => ?_
      rw [List.append_assoc]
      rcases List.mem_append.mp ha with z | z
      · exact List.mem_append_right _ (List.mem_append_left _ z)
      · rcases List.mem_append.mp z with z | z
        · exact List.mem_append_left _ z
        · exact List.mem_append_right _ (List.mem_append_right _ z)
theorem lg_tup {es : List Expr} {k n : Nat} {gs : List T → Env → Option Env} (hc : X.calm = true) (h : LGs X pv es gs) (hn : (assignEach es X.env).length = n := by rfl) (hst : (assignEach es X.env).findIdx? (·.1) = none := by rfl) : LG X pv (.Tuple es k pos) (gTree n gs) :=
  weakG (pg_tup hc h hn hst) fun v σ H Q ⟨M, F, ρ, t, fv, S, r, nn, ρ', e, q⟩ => by
    unfold gTree at e
    split at e
    · split at e
      · rename_i hl
        cases r with
        | tup ht rs => exact ⟨_, _, rfl, .of ht, by rw [rs.length]; exact hl, M, F, ρ, _, fv, S, rs, nn, ρ', e, q⟩
      · cases e
    · cases e
def sAsg (d : De) (g : T → Env → Option Env) : Ds := fun ρ => (d ρ).fl fun x => match g x.1 x.2 with | some ρ' => .nx ρ' | none => .bad
theorem jlm {tg : Expr} {g : T → Env → Option Env} (he : LE X pv W e d) (hg : LG X pv tg g) (hs : swapsWithSole [tg] e pos.line X.env = pure false := by rfl) (hw : swappedStores [tg] e X.env = pure none := by rfl)
    (h1 : (assignEach [tg] X.env).map (·.2) = [assign tg X.env] := by rfl) : LS X pv W (.Assign [tg] e pos) (sAsg d g) :=
  weakS (ps_asg he hg hs hw h1) fun D σ H ⟨M, F, ρ, S, q⟩ => (stepF (k := fun t ρ1 => match g t ρ1 with | some ρ' => .nx ρ' | none => .bad) S q).mono fun v H1 ⟨t1, ρ1, M1, fv1, F1, h1, S1, n1, st, p⟩ => by
    cases e1 : g t1 ρ1 with
    | none => rw [e1] at p; exact p.elim
    | some ρ' =>
      rw [e1] at p
      exact ⟨M1, F1, ρ1, t1, fv1, S1, h1, n1, ρ', e1, fun σ' H' M' F' S' h => p σ' H' M' F' S' (st.trans0 h)⟩
end
structure WkT (K : PySem.W.Frag) (J : It) (H : Hp) (M : MS) (F : List Addr) (ts : List T) : Prop where
  go : ∀ i H1 M1, i < ts.length → Frm H M F H1 M1 → J.go i H1
  stop : ∀ H1 M1, Frm H M F H1 M1 → J.stop ts.length H1
  yld : ∀ i H1 M1 v H2, i < ts.length → Frm H M F H1 M1 → J.yld i H1 v H2 → ∃ t, ts[i]? = some t ∧ Rep K H2 M1 [] v t ∧ Stp H1 M1 [] H2 M1 []
def VI (K : PySem.W.Frag) (mg : Str → Option Value) (pv : Pins) (σ : Sg) (H : Hp) (M : MS) (F : List Addr) (W : WX) (Q : It → Hp → Prop) : R (List T × Env) → Prop
  | .ok (ts, ρ') => ∀ J H' M' F', WkT K J H' M' F' ts → Sta K pv H' M' F' σ ρ' → Stp H M F H' M' F' → Q J H'
  | .ex x ρ' => ∀ cls d H' M' F', ExR mg H' cls d x → Sta K pv H' M' F' σ ρ' → Stp H M F H' M' F' → W cls d σ H'
  | .bad => False
def TId (X : Cx) (pv : Pins) (W : WX) (d : Da) : TI := fun σ H Q => ∃ M F ρ, Sta X.K pv H M F σ ρ ∧ VI X.K X.mg pv σ H M F W Q (d ρ)
abbrev LI (X : Cx) (pv : Pins) (W : WX) (tg iter : Expr) (d : Da) : Prop := PI X tg iter (TId X pv W d)
theorem weakI {X : Cx} {tg iter : Expr} {t t' : TI} (h : PI X tg iter t) (w : ∀ σ H Q, t' σ H Q → t σ H Q) : PI X tg iter t' := ⟨fun pins s σ H R I q => h.run pins s σ H R I (w σ H R q)⟩
def fLoop (g : T → Env → Option Env) (b : Ds) : List T → Ds
  | [], ρ => .nx ρ
  | t :: ts, ρ => match g t ρ with
    | none => .bad
    | some ρ1 => match b ρ1 with | .nx ρ' => fLoop g b ts ρ' | .ct ρ' => fLoop g b ts ρ' | .bk ρ' => .nx ρ' | f => f
def sFor (it : Da) (g : T → Env → Option Env) (b : Ds) : Ds := fun ρ => (it ρ).fl fun x => fLoop g b x.1 x.2
section
variable {X : Cx} {pv : Pins} {W : WX} {tg iter e : Expr} {sts : List Stmt} {pos : Pos} {d : De} {ds : Da} {x : Ds} {g : T → Env → Option Env}
variable {K : PySem.W.Frag} {mg : Str → Option Value} {H H1 H2 : Hp} {M M1 M2 : MS} {F F1 F2 G fv fp : List Addr} {σ : Sg} {ρ ρ1 : Env} {D : Ends} {ts : List T}
theorem TId.mono {Q Q' : It → Hp → Prop} (h : TId X pv W ds σ H Q) (w : ∀ v H, Q v H → Q' v H) : TId X pv W ds σ H Q' := by
  obtain ⟨M, F, ρ, S, q⟩ := h
  refine ⟨M, F, ρ, S, ?_⟩
  cases e : ds ρ with
  | bad => rw [e] at q; exact q
  | ex x ρ' => rw [e] at q; exact q
  | ok a => rw [e] at q; exact fun J H' M' F' a b c => w _ _ (q J H' M' F' a b c)
theorem Stp.of_frm0 {v : V} {t : T} (S : Sta K pv H1 M1 F1 σ ρ) (s : Stp H1 M1 [] H2 M1 []) : Sta K pv H2 M1 F1 σ ρ ∧ Stp H1 M1 F1 H2 M1 F1 :=
  ⟨⟨S.rep.frm s.frm (fun _ z => nomatch z) (fun _ _ z => nomatch z), S.nd, S.pin⟩, ⟨(s.wide (B := F1) (fun _ z => nomatch z)).frm, fun a h => .inl h⟩⟩
theorem jiq (hp : PassesOwn (model X.prog X.w) X.A X.env X.xe) (hc : X.calm = true) (hi : LI X pv W tg iter ds) (hg : LG X pv tg g) (hb : LSs X pv W sts x) (hs : ∀ x, foldedSetIterable iter X.env x = pure x := by intro _; rfl) : LS X pv W (.For tg iter sts [] pos) (sFor ds g x) :=
  weakS (ps_for hp hc hi hg hb hs) fun D σ H ⟨M, F, ρ, S, q⟩ => by
    have h0 : TId X pv W ds σ H (fun J H1 => ∃ M1 F1 ρ1 ts, WkT X.K J H1 M1 F1 ts ∧ Sta X.K pv H1 M1 F1 σ ρ1 ∧ Stp H M F H1 M1 F1 ∧ VS X.K X.mg pv H M F W D (fLoop g x ts ρ1)) := by
      refine ⟨M, F, ρ, S, ?_⟩
      unfold sFor at q
      cases e : ds ρ with
      | bad => rw [e] at q; exact q
      | ex z ρ' => rw [e] at q; exact fun cls d H' M' F' a b c => q cls d σ H' M' F' a b c
      | ok a => rw [e] at q; exact fun J H' M' F' h1 h2 h3 => ⟨M', F', a.2, a.1, h1, h2, h3, q⟩
    refine h0.mono fun J H1 ⟨M1, F1, ρ1, ts, w, S1, st1, q1⟩ => ?_
    refine ⟨fun i m σ2 H2 => m + i = ts.length ∧ ∃ M2 F2 ρ2, Sta X.K pv H2 M2 F2 σ2 ρ2 ∧ Stp H1 M1 F1 H2 M2 F2 ∧ VS X.K X.mg pv H M F W D (fLoop g x (ts.drop i) ρ2), ⟨ts.length, by omega, M1, F1, ρ1, S1, .refl, by simpa using q1⟩, ?_⟩
    rintro i m σ2 H2 ⟨hm, M2, F2, ρ2, S2, st2, q2⟩
    by_cases hi : i < ts.length
    · refine .inr ⟨w.go i H2 M2 hi st2.frm, fun σ' H' => ∃ M2 F2 ρ2, Sta X.K pv H' M2 F2 σ' ρ2 ∧ Stp H1 M1 F1 H' M2 F2 ∧ VS X.K X.mg pv H M F W D (fLoop g x (ts.drop (i + 1)) ρ2), fun σ' H' h => ⟨m - 1, by omega, by omega, h⟩, fun v H3 y => ?_⟩
      obtain ⟨t, e, r, s3⟩ := w.yld i H2 M2 v H3 hi st2.frm y
      have ed : ts.drop i = t :: ts.drop (i + 1) := by
        rw [List.drop_eq_getElem_cons hi]
        congr 1
        rw [List.getElem?_eq_getElem hi] at e
        exact Option.some.inj e
      rw [ed] at q2
      unfold fLoop at q2
      obtain ⟨S3, st3⟩ := Stp.of_frm0 (v := v) (t := t) S2 s3
      cases e1 : g t ρ2 with
      | none => rw [e1] at q2; exact q2.elim
      | some ρ3 =>
        rw [e1] at q2
        refine ⟨M2, F2, ρ2, t, [], S3, r, by simpa using S2.nd, ρ3, e1, fun σ4 H4 M4 F4 S4 h4 => ⟨M4, F4, ρ3, S4, ?_⟩⟩
        have st4 : Stp H1 M1 F1 H4 M4 F4 := (st2.trans0 st3).trans0 (by simpa using h4)
        exact VS.turn (st1.trans0 st4) q2 fun σ' H' M' F' ρ' a b c d => ⟨M', F', ρ', a, st4.trans0 d, c⟩
    · have e : i = ts.length := by omega
      subst e
      rw [List.drop_length] at q2
      exact .inl ⟨w.stop H2 M2 st2.frm, q2 σ2 H2 M2 F2 S2 (st1.trans0 st2)⟩
end
end Q
namespace Q
open PySem PySem.Spec PyProof.Rows L2
variable [tbI : Tbl]
include tbI
section
variable {X : Cx} {pv : Pins} {W : WX} {tg iter e a b : Expr} {es : List Expr} {pos : Pos} {d da db : De} {ds : Da} {g : T → Env → Option Env}
variable {K : PySem.W.Frag} {mg : Str → Option Value} {H H1 H2 : Hp} {M M1 M2 : MS} {F F1 F2 G fv fp : List Addr} {σ : Sg} {ρ ρ1 : Env} {ts : List T} {vs : List V}
def jeu : T → Option (List T)
  | .tup ts => if frs ts = true then some ts else none
  | .con ts => if frs ts = true then some ts else none
  | .lst false ts => if frs ts = true then some ts else none
  | _ => none
def iSeq (d : De) : Da := fun ρ => (d ρ).bind fun x => match jeu x.1 with | some ts => .ok (ts, x.2) | none => .bad
theorem items_rep {v : V} {t : T} (h : jeu t = some ts) (r : Rep K H M fv v t) : fv = [] ∧ ∃ a vs, v = .ref a ∧ Reps K H M [] vs ts ∧ ((SqT K H a vs ∧ ∀ M' H' F, Frm H M F H' M' → Own H M F → SqT K H' a vs) ∨ (SqL K H a vs ∧ ∀ M' H' F, Frm H M F H' M' → Own H M F → SqL K H' a vs)) := by
  unfold jeu at h
  split at h
  · split at h
    · rename_i ts' g
      cases h
      cases r with
      | tup hs rs =>
        have z := rs.fpNil g
        subst z
        exact ⟨rfl, _, _, rfl, rs, .inl ⟨.of hs, fun M' H' F f o => .of (f.keep _ _ hs fun ha => jkr (o _ ha).2 (.inl hs))⟩⟩
    · cases h
  · split at h
    · rename_i ts' g
      cases h
      cases r with
      | con hs rs =>
        have z := rs.fpNil g
        subst z
        exact ⟨rfl, _, _, rfl, rs, .inl ⟨hs.sq, fun M' H' F f o => (hs.frm f o).sq⟩⟩
    · cases h
  · split at h
    · rename_i ts' g
      cases h
      cases r with
      | lstF hs m rs =>
        have z := rs.fpNil g
        subst z
        exact ⟨rfl, _, _, rfl, rs, .inr ⟨.inl hs, fun M' H' F f o => .inl (rd_out f hs fun ha => m (o _ ha).1)⟩⟩
      | lstK hs rs =>
        have z := rs.fpNil g
        subst z
        exact ⟨rfl, _, _, rfl, rs, .inr ⟨.inr hs, fun M' H' F f o => .inr hs⟩⟩
    · cases h
  · cases h
theorem jm3 {J : It} {n : Nat} {Gd : Hp → Prop} {Y : Nat → Hp → V → Hp → Prop} (w : Walk J n Gd Y) (hn : ts.length = n) (hG : ∀ H1 M1, Frm H M F H1 M1 → Gd H1)
    (hy : ∀ i H1 M1 v H2, i < n → Frm H M F H1 M1 → Y i H1 v H2 → ∃ t, ts[i]? = some t ∧ Rep K H2 M1 [] v t ∧ Stp H1 M1 [] H2 M1 []) : WkT K J H M F ts :=
  ⟨fun i H1 M1 hi f => w.goes i H1 (hn ▸ hi) (hG H1 M1 f), fun H1 M1 f => hn ▸ w.stops H1 (hG H1 M1 f), fun i H1 M1 v H2 hi f y => hy i H1 M1 v H2 (hn ▸ hi) f (w.yields i H1 v H2 (hn ▸ hi) (hG H1 M1 f) y)⟩
theorem jid (h : LE X pv W iter d) : LI X pv W tg iter (iSeq d) := by
  refine ⟨fun pins s σ H Rk I ⟨M, F, ρ, S, q⟩ => ?_⟩
  have q' : VQ X.K X.mg pv σ H M F W (fun v H1 => ∃ t1 ρ1 M1 fv1 F1 ts, jeu t1 = some ts ∧ Rep X.K H1 M1 fv1 v t1 ∧ Sta X.K pv H1 M1 F1 σ ρ1 ∧ Stp H M F H1 M1 F1 ∧ ∀ J, WkT X.K J H1 M1 F1 ts → Rk J H1) (d ρ) := by
    unfold iSeq at q
    cases e : d ρ with
    | bad => rw [e] at q; exact q
    | ex x ρ' => rw [e] at q; exact q
    | ok x =>
      rw [e] at q
      simp only [R.bind] at q
      cases e2 : jeu x.1 with
      | none => rw [e2] at q; exact q.elim
      | some ts =>
        rw [e2] at q
        exact fun v H' M' fv F' h1 h2 h3 h4 => ⟨x.1, x.2, M', fv, F', ts, e2, h1, h2, h4.sub fun a ha => List.mem_append_right _ ha, fun J w => q J H' M' F' w h2 (h4.sub fun a ha => List.mem_append_right _ ha)⟩
  refine thn (h.run pins s σ H _ I ⟨M, F, ρ, S, q'⟩) fun u s1 ⟨v, H1, I1, r1, t1, ρ1, M1, fv1, F1, ts, e1, rep, S1, st, k⟩ => ?_
  obtain ⟨_, a, vs, rfl, rs, c⟩ := items_rep e1 rep
  cases r1
  have rel : ∀ i H2 M2 v', Frm H1 M1 F1 H2 M2 → vs[i]? = some v' → ∃ t, ts[i]? = some t ∧ Rep X.K H2 M2 [] v' t ∧ Stp H2 M2 [] H2 M2 [] := fun i H2 M2 v' f ev => by
    have rs2 := rs.frm f S1.rep.own (fun _ z => nomatch z)
    obtain ⟨t, et⟩ := rs2.getV ev
    obtain ⟨w, fq, g1, g2, g3⟩ := rs2.get et
    rw [ev] at g1; cases g1
    cases fq with
    | nil => exact ⟨t, et, g2, .refl⟩
    | cons x y => exact (nomatch g3 x List.mem_cons_self)
  rcases c with ⟨hs, keep⟩ | ⟨hs, keep⟩
  · obtain ⟨its, rv, p, hz⟩ := I1.tuple hs
    have w : WkT X.K (Itt X.K a) H1 M1 F1 ts := jm3 (walk_tup (xs := vs)) rs.length.symm (fun H2 M2 f => keep M2 H2 F1 f S1.rep.own) fun i H2 M2 v' H3 hi f y => by
      obtain ⟨rfl, ev⟩ := y
      exact rel i _ M2 v' f ev
    refine wpAny_pyIter_tuple (show s1.heap.IsTuple a its.toArray from p) ?_
    refine ⟨s1.heap.objs.size, [s1.heap.objs.size], _, Itt X.K a, H1, rfl, ?_, turn_tuple a _, ⟨_, Heap.get?_push_size _ rfl, rfl, rfl⟩, ?_, k _ w⟩
    · exact I1.kept (t' := s1.toks) fun b o q => Heap.get?_push_of_some _ q
    · intro b hb
      obtain rfl : b = s1.heap.objs.size := by simpa using hb
      exact I1.fpOk (Nat.le_refl _) I1.fresh
  · obtain ⟨its, rv, p, hz⟩ := I1.list hs
    have w : WkT X.K (Itl X.K a) H1 M1 F1 ts := jm3 (walk_list (xs := vs)) rs.length.symm (fun H2 M2 f => keep M2 H2 F1 f S1.rep.own) fun i H2 M2 v' H3 hi f y => by
      obtain ⟨rfl, ev⟩ := y
      exact rel i _ M2 v' f ev
    refine wpAny_pyIter_list p.isList ?_
    refine ⟨s1.heap.objs.size, [s1.heap.objs.size], _, Itl X.K a, H1, rfl, ?_, turn_list a _, ⟨_, Heap.get?_push_size _ rfl, rfl, rfl⟩, ?_, k _ w⟩
    · exact I1.kept (t' := s1.toks) fun b o q => Heap.get?_push_of_some _ q
    · intro b hb
      obtain rfl : b = s1.heap.objs.size := by simpa using hb
      exact I1.fpOk (Nat.le_refl _) I1.fresh
def intsT (lo : Int) (n : Nat) : List T := (List.range n).map fun i => .int (lo + (i : Nat))
theorem jme {lo : Int} {n i : Nat} (h : i < n) : (intsT lo n)[i]? = some (.int (lo + (i : Nat))) := by
  unfold intsT
  rw [List.getElem?_map, List.getElem?_range h]; rfl
theorem jmf {lo : Int} {n : Nat} : WkT K (Itr lo n) H M F (intsT lo n) :=
  jm3 walk_range (by simp [intsT]) (fun _ _ _ => trivial) fun i H1 M1 v H2 hi f y => by
    obtain ⟨rfl, rfl⟩ := y
    exact ⟨_, jme hi, .int _, .refl⟩
def small62 (i : Int) : Bool := decide (-(2 ^ 62) ≤ i) && decide (i < 2 ^ 62)
def jat (ds : Da) : Da := fun ρ => (ds ρ).bind fun x => match x.1 with | [.int j] => if small62 j = true then .ok (intsT 0 j.toNat, x.2) else .bad | _ => .bad
def jbo (ds : Da) : Da := fun ρ => (ds ρ).bind fun x => match x.1 with | [.int i, .int j] => if (small62 i && small62 j) = true then .ok (intsT i (j - i).toNat, x.2) else .bad | _ => .bad
theorem jir {i : Int} (h : small62 i = true) : -(2 ^ 62) ≤ i ∧ i < 2 ^ 62 := by
  unfold small62 at h
  rw [Bool.and_eq_true, decide_eq_true_eq, decide_eq_true_eq] at h
  exact h
theorem jmg {i : Int} (r : Reps K H M fv vs [.int i]) : vs = [.int i] ∧ fv = [] := by
  cases r with
  | cons r rs => cases rs; cases r; exact ⟨rfl, rfl⟩
theorem reps_int2 {i j : Int} (r : Reps K H M fv vs [.int i, .int j]) : vs = [.int i, .int j] ∧ fv = [] := by
  cases r with
  | cons r rs =>
    obtain ⟨e1, e2⟩ := jmg rs
    subst e1; subst e2
    cases r; exact ⟨rfl, rfl⟩
theorem jd8 {p : Pos} (ha : LA X pv W [a] ds) (hm : X.mg "range" = none) (hg : Gl X "range" := by rfl) (hs : starEach [a] X.env = [(false, eval a X.env)] := by rfl) : LI X pv W tg (.Call (.Name "range" p) [a] [] pos) (jat ds) :=
  weakI (pi_range1 hg hm ha hs) fun σ H Rk ⟨M, F, ρ, S, q⟩ => by
    refine ⟨M, F, ρ, S, ?_⟩
    unfold jat at q
    cases e : ds ρ with
    | bad => rw [e] at q; exact q
    | ex x ρ' => rw [e] at q; exact q
    | ok x =>
      rw [e] at q
      obtain ⟨ts, ρ'⟩ := x
      simp only [R.bind] at q
      split at q
      · split at q
        · rename_i j hs
          intro vs H' M' fv F' h1 h2 h3 h4
          obtain ⟨ev, ef⟩ := jmg h1
          subst ev; subst ef
          obtain ⟨b1, b2⟩ := jir hs
          exact ⟨j, rfl, b1, b2, q _ H' M' F' jmf h2 (by simpa using h4)⟩
        · exact q.elim
      · exact q.elim
theorem li_range2 {p : Pos} (ha : LA X pv W [a, b] ds) (hm : X.mg "range" = none) (hg : Gl X "range" := by rfl) (hs : starEach [a, b] X.env = [(false, eval a X.env), (false, eval b X.env)] := by rfl) (hs2 : starEach [b] X.env = [(false, eval b X.env)] := by rfl) : LI X pv W tg (.Call (.Name "range" p) [a, b] [] pos) (jbo ds) :=
  weakI (pi_range2 hg hm ha hs hs2) fun σ H Rk ⟨M, F, ρ, S, q⟩ => by
    refine ⟨M, F, ρ, S, ?_⟩
    unfold jbo at q
    cases e : ds ρ with
    | bad => rw [e] at q; exact q
    | ex x ρ' => rw [e] at q; exact q
    | ok x =>
      rw [e] at q
      obtain ⟨ts, ρ'⟩ := x
      simp only [R.bind] at q
      split at q
      · split at q
        · rename_i i j hs
          intro vs H' M' fv F' h1 h2 h3 h4
          obtain ⟨ev, ef⟩ := reps_int2 h1
          subst ev; subst ef
          rw [Bool.and_eq_true] at hs
          obtain ⟨b1, b2⟩ := jir hs.1
          obtain ⟨b3, b4⟩ := jir hs.2
          exact ⟨i, j, rfl, ⟨b1, b2, b3, b4⟩, q _ H' M' F' jmf h2 (by simpa using h4)⟩
        · exact q.elim
      · exact q.elim
end
def cLoop (own : List Nat) (g : T → Env → Option Env) (t : Db) (d : De) : List T → List T → Env → R (T × Env)
  | [], acc, ρ => .ok (.lst true acc, ρ)
  | x :: xs, acc, ρ => match g x (wipeE ρ own) with
    | none => .bad
    | some ρ1 => match t ρ1 with
      | .ok (false, ρ2) => cLoop own g t d xs acc (wipeE ρ2 own)
      | .ok (true, ρ2) => (match d ρ2 with
        | .ok (u, ρ3) => if acc.length < sizeLine then cLoop own g t d xs (acc ++ [u]) (wipeE ρ3 own) else .bad
        | _ => .bad)
      | _ => .bad
def dComp (own : List Nat) (it : Da) (g : T → Env → Option Env) (t : Db) (d : De) : De := fun ρ => (it ρ).bind fun x => cLoop own g t d x.1 [] x.2
def bYes : Db := fun ρ => .ok (true, ρ)
abbrev WF : WX := fun _ _ _ _ => False
section
variable {X : Cx} {pv : Pins} {W : WX} {tg iter elt c : Expr} {ifs : List Expr} {pos : Pos} {d : De} {t : Db} {ds : Da} {g : T → Env → Option Env}
variable {K : PySem.W.Frag} {mg : Str → Option Value} {H H1 H2 : Hp} {M M1 M2 : MS} {F F1 F2 G fv fp : List Addr} {σ σ2 : Sg} {ρ ρ1 : Env} {ts : List T} {vs : List V}
abbrev LTs (X : Cx) (pv : Pins) (W : WX) (ifs : List Expr) (t : Db) : Prop := PTs X ifs (TBd X pv W t)
theorem jev : LTs X pv W [] bYes := ⟨fun pins s σ H Q I ⟨M, F, ρ, S, q⟩ => pts_nil.run pins s σ H Q I (q H M F S .refl)⟩
theorem jgh {σ : Sg} {i : Nat} : ∀ {is : List Nat}, i ∉ is → (wipe σ is)[i]? = σ[i]?
  | [], _ => rfl
  | j :: is, h => by
    show ((wipe σ is).set j none)[i]? = _
    rw [List.getElem?_set_ne (fun e => h (by simp [e])), jgh fun z => h (List.mem_cons_of_mem _ z)]
theorem ERep.wipe2 (r : ERep K H M F σ2 ρ) (own : List Nat) (e : L2.wipe σ2 own = L2.wipe σ own) : ∃ G, ERep K H M G σ (wipeE ρ own) ∧ List.Sublist G F := by
  have hl : σ2.length = σ.length := by
    have := congrArg List.length e
    simpa [wipe_length] using this
  have gen : ∀ is : List Nat, ∃ G σ3, ERep K H M G σ3 (wipeE ρ is) ∧ List.Sublist G F ∧ σ3.length = σ.length ∧ ∀ i, (i ∈ is → σ3[i]? = σ[i]?) ∧ (i ∉ is → σ3[i]? = σ2[i]?) := by
    intro is
    induction is with
    | nil => exact ⟨F, σ2, r, .refl _, hl, fun i => ⟨(fun z => nomatch z), fun _ => rfl⟩⟩
    | cons j is ih =>
      obtain ⟨G, σ3, r3, s3, l3, h3⟩ := ih
      by_cases hj : j < σ.length
      · obtain ⟨G', r4, s4⟩ := r3.drop j (σ[j])
        refine ⟨G', _, r4, s4.trans s3, by simpa using l3, fun i => ?_⟩
        by_cases hij : j = i
        · subst hij
          rw [List.getElem?_set_self (by omega)]
          exact ⟨fun _ => by simp [hj], fun z => absurd List.mem_cons_self z⟩
        · rw [List.getElem?_set_ne hij]
          exact ⟨fun z => (h3 i).1 ((List.mem_cons.mp z).resolve_left fun e => hij e.symm), fun z => (h3 i).2 fun w => z (List.mem_cons_of_mem _ w)⟩
      · have e1 : wipeE ρ (j :: is) = wipeE ρ is := List.set_eq_of_length_le (by have := r3.length; omega)
        rw [e1]
        refine ⟨G, σ3, r3, s3, l3, fun i => ⟨fun z => ?_, fun z => (h3 i).2 fun w => z (List.mem_cons_of_mem _ w)⟩⟩
        rcases List.mem_cons.mp z with z | z
        · subst z
          rw [List.getElem?_eq_none (by omega), List.getElem?_eq_none (by omega)]
        · exact (h3 i).1 z
  obtain ⟨G, σ3, r3, s3, l3, h3⟩ := gen own
  have : σ3 = σ := by
    apply List.ext_getElem?
    intro i
    by_cases hi : i ∈ own
    · exact (h3 i).1 hi
    · rw [(h3 i).2 hi, ← jgh (σ := σ2) hi, e, jgh hi]
  subst this
  exact ⟨G, r3, s3⟩
theorem jj0 {σ : Sg} (own : List Nat) : L2.wipe (L2.wipe σ own) own = L2.wipe σ own := by
  have gen : ∀ (k : Nat) (τ : Sg) (is : List Nat), k ∈ is → (L2.wipe τ is)[k]? = if k < τ.length then some none else none := by
    intro k τ is
    induction is with
    | nil => intro z; exact nomatch z
    | cons j is ih =>
      intro z
      show ((L2.wipe τ is).set j none)[k]? = _
      by_cases hij : j = k
      · subst hij
        by_cases hl : j < τ.length
        · rw [List.getElem?_set_self (by rw [wipe_length]; exact hl), if_pos hl]
        · rw [List.getElem?_eq_none (by rw [List.length_set, wipe_length]; omega), if_neg hl]
      · rw [List.getElem?_set_ne hij]
        exact ih ((List.mem_cons.mp z).resolve_left fun e => hij e.symm)
  apply List.ext_getElem?
  intro i
  by_cases hi : i ∈ own
  · rw [gen i _ own hi, gen i _ own hi, wipe_length]
  · rw [jgh hi, jgh hi]
theorem Sta.blk (S : Sta K pv H M F σ ρ) (own : List Nat) (hpo : ∀ i ∈ own, pv i = none) : ∃ G, Sta K pv H M G (L2.wipe σ own) (wipeE ρ own) ∧ List.Sublist G F := by
  have e : L2.wipe σ own = L2.wipe (L2.wipe σ own) own := (jj0 own).symm
  obtain ⟨G, r, s⟩ := S.rep.wipe2 own e
  refine ⟨G, ⟨r, S.nd.sublist s, fun i v h => ?_⟩, s⟩
  have hi : i ∉ own := fun z => by rw [hpo i z] at h; cases h
  rw [jgh hi]
  exact S.pin i v h
theorem Sta.unblk (S : Sta K pv H M F σ2 ρ) (own : List Nat) (e : L2.wipe σ2 own = L2.wipe σ own) (hp : ∀ i v, pv i = some v → σ[i]? = some (some v)) : ∃ G, Sta K pv H M G σ (wipeE ρ own) ∧ List.Sublist G F := by
  obtain ⟨G, r, s⟩ := S.rep.wipe2 own e
  exact ⟨G, ⟨r, S.nd.sublist s, hp⟩, s⟩
variable {scope : Scope} {own : List (Str × Nat)}
def TGo (K : PySem.W.Frag) (pv : Pins) (own : List Nat) (g : T → Env → Option Env) : TG :=
  fun v σ H Q => ∃ M F ρ t fv, Sta K pv H M F σ ρ ∧ Rep K H M fv v t ∧ (fv ++ F).Nodup ∧ ∃ ρ', g t ρ = some ρ' ∧ ∀ σ' F', L2.wipe σ' own = L2.wipe σ own → Sta K pv H M F' σ' ρ' → (∀ a ∈ F', a ∈ fv ++ F) → Q σ' H
abbrev TgIn (X : Cx) (tg : Expr) (own : List Nat) (g : T → Env → Option Env) (pv : Pins) : Prop := PG X tg (TGo X.K pv own g)
def TgIns (X : Cx) (tg : List Expr) (own : List Nat) (g : List T → Env → Option Env) (pv : Pins) : Prop :=
  PGs X tg (fun vs σ H Q => ∃ M F ρ ts fv, Sta X.K pv H M F σ ρ ∧ Reps X.K H M fv vs ts ∧ (fv ++ F).Nodup ∧ ∃ ρ', g ts ρ = some ρ' ∧ ∀ σ' F', L2.wipe σ' own = L2.wipe σ own → Sta X.K pv H M F' σ' ρ' → (∀ a ∈ F', a ∈ fv ++ F) → Q σ' H)
theorem jnl {σ : Sg} {i : Nat} {x : Option V} : ∀ {is : List Nat}, i ∈ is → L2.wipe (σ.set i x) is = L2.wipe σ is
  | [], h => nomatch h
  | j :: is, h => by
    show (L2.wipe (σ.set i x) is).set j none = (L2.wipe σ is).set j none
    by_cases e : i ∈ is
    · rw [jnl e]
    · have ij : i = j := (List.mem_cons.mp h).resolve_right e
      subst ij
      apply List.ext_getElem?
      intro k
      by_cases hk : i = k
      · subst hk
        by_cases hl : i < σ.length
        · rw [List.getElem?_set_self (by rw [wipe_length, List.length_set]; exact hl), List.getElem?_set_self (by rw [wipe_length]; exact hl)]
        · rw [List.getElem?_eq_none (by rw [List.length_set, wipe_length, List.length_set]; omega), List.getElem?_eq_none (by rw [List.length_set, wipe_length]; omega)]
      · rw [List.getElem?_set_ne hk, List.getElem?_set_ne hk]
        by_cases hks : k ∈ is
        · have gen : ∀ (τ : Sg) (js : List Nat), k ∈ js → (L2.wipe τ js)[k]? = if k < τ.length then some none else none := by
            intro τ js
            induction js with
            | nil => intro z; exact nomatch z
            | cons m js ih =>
              intro z
              show ((L2.wipe τ js).set m none)[k]? = _
              by_cases hm : m = k
              · subst hm
                by_cases hl : m < τ.length
                · rw [List.getElem?_set_self (by rw [wipe_length]; exact hl), if_pos hl]
                · rw [List.getElem?_eq_none (by rw [List.length_set, wipe_length]; omega), if_neg hl]
              · rw [List.getElem?_set_ne hm]
                exact ih ((List.mem_cons.mp z).resolve_left fun e => hm e.symm)
          rw [gen _ _ hks, gen _ _ hks, List.length_set]
        · rw [jgh hks, jgh hks, List.getElem?_set_ne hk]
theorem jdo {o : List Nat} (i : Nat) {z : Str} {p : Pos} (ho : i ∈ o) (hN : X.N.Nodup) (hi : X.N[i]? = some z) (hx : Loc X.env.scope z) (hp : pv i = none) (hf : X.fn z = true ∨ X.env.scope.names.lookup z = some .local) : TgIn X (.Name z p) o (gSlot i) pv :=
  weakG (pg_name hN hi hx hf) fun v σ H Q ⟨M, F, ρ, t, fv, S, r, n, ρ', e, q⟩ => by
    cases e
    obtain ⟨F', S', h⟩ := S.slot hp r n
    exact q _ F' (jnl ho) S' h
theorem jku {o : List Nat} : TgIns X [] o gsNil pv := weakGs pgs_nil fun v σ H Q ⟨M, F, ρ, ts, fv, S, r, n, ρ', e, q⟩ => by
  cases r with
  | nil => cases e; exact ⟨rfl, q σ F rfl S fun a ha => ha⟩
  | cons r rs => cases e
theorem jfn {o : List Nat} {e : Expr} {es : List Expr} {g : T → Env → Option Env} {gs : List T → Env → Option Env} (h1 : TgIn X e o g pv) (h2 : TgIns X es o gs pv) (hs : (assignEach (e :: es) X.env).map (·.2) = assign e X.env :: (assignEach es X.env).map (·.2) := by rfl) : TgIns X (e :: es) o (jbl g gs) pv :=
  weakGs (pgs_cons h1 h2 hs) fun v σ H Q ⟨M, F, ρ, ts, fv, S, r, n, ρ', e, q⟩ => by
    cases r with
    | nil => cases e
    | @cons fp fq v1 t1 vs1 ts1 r rs =>
      obtain ⟨ρ1, e1, e2⟩ := Option.bind_eq_some_iff.mp e
      rw [List.append_assoc] at n
      have n' : (fq ++ (fp ++ F)).Nodup := by
        refine (List.Perm.nodup_iff ?_).mp n
        rw [← List.append_assoc, ← List.append_assoc]
        exact List.perm_append_comm.append_right F
      refine ⟨v1, vs1, rfl, M, F, ρ, t1, fp, S, r, n'.sublist (List.sublist_append_right _ _), ρ1, e1, fun σ1 F1 w1 S1 h1 => ?_⟩
      have n1 : (fq ++ F1).Nodup := List.nodup_append.mpr ⟨(List.nodup_append.mp n').1, S1.nd, fun a ha b hb e => (List.nodup_append.mp n').2.2 a ha b (h1 b hb) e⟩
      refine ⟨M, F1, ρ1, ts1, fq, S1, rs, n1, ρ', e2, fun σ2 F2 w2 S2 h2 => q σ2 F2 (w2.trans w1) S2 fun a ha => ?_⟩
      rw [List.append_assoc]
      rcases List.mem_append.mp (h2 a ha) with z | z
      · exact List.mem_append_right _ (List.mem_append_left _ z)
      · rcases List.mem_append.mp (h1 a z) with z | z
        · exact List.mem_append_left _ z
        · exact List.mem_append_right _ (List.mem_append_right _ z)
theorem jnm {o : List Nat} {es : List Expr} {k n : Nat} {p : Pos} {gs : List T → Env → Option Env} (hc : X.calm = true) (h : TgIns X es o gs pv) (hn : (assignEach es X.env).length = n := by rfl) (hst : (assignEach es X.env).findIdx? (·.1) = none := by rfl) : TgIn X (.Tuple es k p) o (gTree n gs) pv :=
  weakG (pg_tup hc h hn hst) fun v σ H Q ⟨M, F, ρ, t, fv, S, r, nn, ρ', e, q⟩ => by
    unfold gTree at e
    split at e
    · split at e
      · rename_i hl
        cases r with
        | tup ht rs => exact ⟨_, _, rfl, .of ht, by rw [rs.length]; exact hl, M, F, ρ, _, fv, S, rs, nn, ρ', e, q⟩
      · cases e
    · cases e
theorem Reps.uno {v : V} {t : T} (r : Reps K H M fp [v] [t]) : Rep K H M fp v t := by
  cases r with
  | cons r rs =>
    have z := rs.fpNil rfl
    subst z
    rw [List.append_nil]
    exact r
theorem Stp.set1 {D : Addr} {x : HO} (s : Stp H M F H1 M1 G) (h : H D ≠ none → D ∈ F) (m : M1 D) : Stp H M F (upd H1 D x) M1 G := by
  refine ⟨⟨fun a o e n nt => ?_, s.frm.own, fun a o e => ?_, fun P q l t => (s.frm.tabs P q l t).to fun a o e nm => ⟨by rw [upd_ne fun z => nm (by rw [z]; exact m)]; exact e, nm⟩⟩, s.new⟩
  · rw [upd_ne fun z => n (by rw [z]; exact h (by rw [← z, e]; exact fun q => nomatch q))]
    exact s.frm.keep a o e n nt
  · by_cases q : a = D
    · subst q; exact ⟨x, upd_same⟩
    · obtain ⟨o', e'⟩ := s.frm.there a o e
      exact ⟨o', by rw [upd_ne q]; exact e'⟩
theorem jmh {o : List Nat} {Q : VK} (hpo : ∀ i ∈ o, pv i = none) (S : Sta X.K pv H M F σ ρ) (q : VQ X.K X.mg pv σ H M F W Q (dComp o ds g t d ρ)) :
    tLc (TId X pv W ds) (TGo X.K pv o g)
      (TBd X pv WF t) (TEd X pv WF d) o σ H Q := by
  have h0 : TId X pv W ds σ H (fun J H1 => ∃ M1 F1 ρ1 ts, WkT X.K J H1 M1 F1 ts ∧ Sta X.K pv H1 M1 F1 σ ρ1 ∧ Stp H M F H1 M1 F1 ∧ VQ X.K X.mg pv σ H M F W Q (cLoop o g t d ts [] ρ1)) := by
    refine ⟨M, F, ρ, S, ?_⟩
    unfold dComp at q
    cases e : ds ρ with
    | bad => rw [e] at q; exact q
    | ex z ρ' => rw [e] at q; exact q
    | ok a => rw [e] at q; exact fun J H' M' F' h1 h2 h3 => ⟨M', F', a.2, a.1, h1, h2, h3, q⟩
  refine h0.mono fun J H1 ⟨M1, F1, ρ1, ts, w, S1, st1, q1⟩ => ?_
  intro D hD
  have dF : D ∉ F1 := fun z => by
    obtain ⟨x, e⟩ := S1.rep.own.some_ z
    rw [hD] at e; cases e
  refine ⟨fun i m H2 => m + i = ts.length ∧ ∃ M2 F2 ρ2 acc vacc fa, H2 D = some (.lst vacc) ∧ M2 D ∧ Reps X.K H2 M2 fa vacc acc ∧ Sta X.K pv H2 M2 F2 σ ρ2 ∧ (D :: (fa ++ F2)).Nodup ∧ Stp H1 M1 F1 H2 M2 (D :: (fa ++ F2)) ∧
    VQ X.K X.mg pv σ H M F W Q (cLoop o g t d (ts.drop i) acc ρ2), ⟨ts.length, by omega, fun a => M1 a ∨ a = D, F1, ρ1, [], [], [], upd_same, .inr rfl, .nil, ?_, ?_, ?_, by simpa using q1⟩, ?_⟩
  · have f : Frm H1 M1 [] (upd H1 D (.lst [])) (fun a => M1 a ∨ a = D) := .of (fun _ z => nomatch z) (fun a o e _ => by rw [upd_ne (ne_of_none e hD)]; exact e) (fun a o e _ => ⟨fun z => z.resolve_right (ne_of_none e hD), .inl⟩) (fun a o e => ⟨o, by rw [upd_ne (ne_of_none e hD)]; exact e⟩)
    exact ⟨S1.rep.frm f (fun _ z => nomatch z) (fun _ _ z => nomatch z), S1.nd, S1.pin⟩
  · exact List.nodup_cons.mpr ⟨by simpa using dF, by simpa using S1.nd⟩
  · refine ⟨.of (fun a ha => (S1.rep.own a ha).1) (fun a o e _ => by rw [upd_ne (ne_of_none e hD)]; exact e) (fun a o e _ => ⟨fun z => z.resolve_right (ne_of_none e hD), .inl⟩) (fun a o e => ⟨o, by rw [upd_ne (ne_of_none e hD)]; exact e⟩), fun a ha => ?_⟩
    rcases List.mem_cons.mp ha with z | z
    · exact .inr (z ▸ hD)
    · exact .inl (by simpa using z)
  · rintro i m H2 ⟨hm, M2, F2, ρ2, acc, vacc, fa, eD, mD, ra, S2, n2, st2, q2⟩
    have st2' : Stp H M F H2 M2 (D :: (fa ++ F2)) := by
      have := (st1.trans0 st2)
      exact this
    by_cases hi : i < ts.length
    · refine .inr ⟨w.go i H2 M2 hi st2.frm, fun H' => m - 1 + (i + 1) = ts.length ∧ ∃ M2 F2 ρ2 acc vacc fa, H' D = some (.lst vacc) ∧ M2 D ∧ Reps X.K H' M2 fa vacc acc ∧ Sta X.K pv H' M2 F2 σ ρ2 ∧ (D :: (fa ++ F2)).Nodup ∧ Stp H1 M1 F1 H' M2 (D :: (fa ++ F2)) ∧
          VQ X.K X.mg pv σ H M F W Q (cLoop o g t d (ts.drop (i + 1)) acc ρ2), fun H' h => ⟨m - 1, by omega, h⟩, fun v H3 y => ?_⟩
      obtain ⟨u, e, r, s3⟩ := w.yld i H2 M2 v H3 hi st2.frm y
      have ed : ts.drop i = u :: ts.drop (i + 1) := by
        rw [List.drop_eq_getElem_cons hi]
        congr 1
        rw [List.getElem?_eq_getElem hi] at e
        exact Option.some.inj e
      rw [ed] at q2
      unfold cLoop at q2
      have held2 : Rep X.K H2 M2 (D :: fa) (.ref D) (.lst true acc) := .lstO eD mD ra
      have n2' : ((D :: fa) ++ F2).Nodup := n2
      have held3 : Rep X.K H3 M2 (D :: fa) (.ref D) (.lst true acc) := held2.frm s3.frm (fun _ z => nomatch z) (fun _ _ z => nomatch z)
      obtain ⟨S3, st3⟩ := Stp.of_frm0 (v := v) (t := u) S2 s3
      obtain ⟨G3, S3', sub3⟩ := S3.blk o hpo
      have n3 : ((D :: fa) ++ G3).Nodup := n2'.sublist (List.Sublist.append (.refl _) sub3)
      cases e1 : g u (wipeE ρ2 o) with
      | none => rw [e1] at q2; exact q2.elim
      | some ρ3 =>
        rw [e1] at q2
        dsimp only at q2
        refine ⟨M2, G3, wipeE ρ2 o, u, [], S3', r, by simpa using S3'.nd, ρ3, e1, fun σ4 F4 w4 S4 h4 => ⟨w4.trans ?_, ?_⟩⟩
        · exact jj0 o
        have h4' : ∀ a ∈ F4, a ∈ G3 := fun a ha => by simpa using h4 a ha
        have n4 : ((D :: fa) ++ F4).Nodup := List.nodup_append.mpr ⟨(List.nodup_append.mp n3).1, S4.nd, fun a ha b hb e => (List.nodup_append.mp n3).2.2 a ha b (h4' b hb) e⟩
        have w4' : L2.wipe σ4 o = L2.wipe σ o := w4.trans (jj0 o)
        have stA : Stp H1 M1 F1 H3 M2 ((D :: fa) ++ F4) := by
          refine ⟨⟨fun a oo e n nt => s3.frm.keep a oo (st2.frm.keep a oo e n nt) (fun z => nomatch z) nt, fun a oo e n => by
              obtain ⟨o1, e1⟩ := st2.frm.there a oo e
              exact (s3.frm.own a o1 e1 (fun z => nomatch z)).trans (st2.frm.own a oo e n), fun a oo e => ?_, fun P q l t => s3.frm.tabs P q l (st2.frm.tabs P q l t)⟩, fun a ha => ?_⟩
          · obtain ⟨o1, e1⟩ := st2.frm.there a oo e
            exact s3.frm.there a o1 e1
          · rcases List.mem_append.mp ha with z | z
            · exact st2.new a (by rcases List.mem_cons.mp z with z | z; exact z ▸ List.mem_cons_self; exact List.mem_cons_of_mem _ (List.mem_append_left _ z))
            · exact st2.new a (List.mem_cons_of_mem _ (List.mem_append_right _ (sub3.subset (h4' a z))))
        refine ⟨M2, F4, ρ3, S4, ?_⟩
        cases e5 : t ρ3 with
        | bad => rw [e5] at q2; exact q2
        | ex x ρ' => rw [e5] at q2; exact q2.elim
        | ok b5 =>
          rw [e5] at q2
          obtain ⟨b5, ρ5⟩ := b5
          intro H5 M5 F5 S5 s5
          obtain ⟨held5, dj5⟩ := (Reps.one held3).hold S4.rep.own n4 s5
          have n5 : ((D :: fa) ++ F5).Nodup := List.nodup_append.mpr ⟨(List.nodup_append.mp n3).1, S5.nd, fun a ha b hb e => dj5 a ha (e ▸ hb)⟩
          have stB : Stp H1 M1 F1 H5 M5 ((D :: fa) ++ F5) := stA.trans s5
          cases b5 with
          | false =>
            rw [if_neg Bool.false_ne_true]
            obtain ⟨G6, S6, sub6⟩ := S5.unblk o w4' S2.pin
            have h5 := held5.uno
            cases h5 with
            | lstO eD5 mD5 ra5 =>
                  refine ⟨by omega, M5, G6, _, acc, _, fa, eD5, mD5, ra5, S6, ?_, stB.sub fun a ha => ?_, q2⟩
                  · have := n5.sublist (List.Sublist.append (.refl (D :: fa)) sub6)
                    simpa using this
                  · rcases List.mem_cons.mp ha with z | z
                    · exact z ▸ List.mem_cons_self
                    · rcases List.mem_append.mp z with z | z
                      · exact List.mem_cons_of_mem _ (List.mem_append_left _ z)
                      · exact List.mem_append_right _ (sub6.subset z)
          | true =>
            rw [if_pos rfl]
            refine ⟨M5, F5, ρ5, S5, ?_⟩
            simp only at q2
            cases e6 : d ρ5 with
            | bad => rw [e6] at q2; exact q2
            | ex x ρ' => rw [e6] at q2; exact q2.elim
            | ok b6 =>
              rw [e6] at q2
              obtain ⟨u6, ρ6⟩ := b6
              simp only at q2
              by_cases hz : acc.length < sizeLine
              · rw [if_pos hz] at q2
                intro v6 H6 M6 fv6 F6 r6 S6 n6 s6
                obtain ⟨held6, dj6⟩ := held5.hold S5.rep.own n5 s6
                obtain ⟨G7, S7, sub7⟩ := S6.unblk o w4' S2.pin
                have stC : Stp H1 M1 F1 H6 M6 ((D :: fa) ++ (fv6 ++ F6)) := stB.trans s6
                have h6 := held6.uno
                cases h6 with
                | lstO eD6 mD6 ra6 =>
                      have nA : (D :: (fa ++ (fv6 ++ F6))).Nodup := by
                        have := nd3 n5 n6 dj6
                        simpa using this
                      have fD : ∀ {z : List V}, Frm H6 M6 [D] (upd H6 D (.lst z)) M6 := fun {z} => .of (fun a ha => by rw [List.mem_singleton.mp ha]; exact mD6) (fun a oo e n => by rw [upd_ne (by simpa using n)]; exact e) (fun _ _ _ _ => Iff.rfl) (fun a oo e => by
                        by_cases q : a = D
                        · subst q; exact ⟨_, upd_same⟩
                        · exact ⟨oo, by rw [upd_ne q]; exact e⟩)
                      have oD : Own H6 M6 [D] := fun a ha => by
                        obtain rfl : a = D := by simpa using ha
                        exact ⟨mD6, by rw [eD6]; trivial⟩
                      refine ⟨_, eD6, by rw [ra6.length]; exact hz, by omega, M6, G7, _, acc ++ [u6], _, fa ++ fv6, upd_same, mD6, ?_, ?_, ?_, ?_, q2⟩
                      · refine Reps.app (Reps.frm fD oD ra6 fun a ha z => ?_) (Reps.one (Rep.frm fD oD r6 fun a ha z => ?_))
                        · obtain rfl : a = D := by simpa using z
                          exact (List.nodup_cons.mp nA).1 (List.mem_append_left _ ha)
                        · obtain rfl : a = D := by simpa using z
                          exact (List.nodup_cons.mp nA).1 (List.mem_append_right _ (List.mem_append_left _ ha))
                      · exact ⟨S7.rep.frm fD oD (fun a ha z => by
                          obtain rfl : a = D := by simpa using z
                          exact (List.nodup_cons.mp nA).1 (List.mem_append_right _ (List.mem_append_right _ (sub7.subset ha)))), S7.nd, S7.pin⟩
                      · rw [List.append_assoc]
                        exact nA.sublist (List.Sublist.cons_cons D (List.Sublist.append (.refl _) (List.Sublist.append (.refl _) sub7)))
                      · refine (stC.sub (G' := D :: (fa ++ fv6 ++ G7)) fun a ha => ?_).set1 (fun h0 => ?_) mD6
                        · rw [List.append_assoc] at ha
                          rcases List.mem_cons.mp ha with z | z
                          · exact z ▸ List.mem_cons_self
                          · rcases List.mem_append.mp z with z | z
                            · exact List.mem_cons_of_mem _ (List.mem_append_left _ z)
                            · rcases List.mem_append.mp z with z | z
                              · exact List.mem_append_right _ (List.mem_append_left _ z)
                              · exact List.mem_append_right _ (List.mem_append_right _ (sub7.subset z))
                        · rw [hD] at h0; exact absurd rfl h0
              · rw [if_neg hz] at q2; exact q2.elim
    · have e : i = ts.length := by omega
      subst e
      rw [List.drop_length] at q2
      refine .inl ⟨w.stop H2 M2 st2.frm, q2 _ H2 M2 (D :: fa) F2 (.lstO eD mD ra) S2 n2 st2'⟩
end
end Q
namespace Q
open PySem PySem.Spec PyProof.Rows L2
variable [tbI : Tbl]
include tbI
section
variable {X : Cx} {pv : Pins} {W : WX} {tg iter elt c e : Expr} {es ifs : List Expr} {pos : Pos} {d : De} {t : Db} {ds : Da} {g : T → Env → Option Env} {scope : Scope} {own : List (Str × Nat)}
theorem l_lc (hc : X.calm = true) (hN : X.N.Nodup) (hi : LI X pv W tg iter ds) (ok : BlkOk X.N X.env.scope scope own) (hpo : ∀ i ∈ own.map (·.2), pv i = none)
    (hg : ∀ (s : Shared) (H : Hp) (C : Addr) (cl : List (Str × Addr)) (fp : List Addr), TgIn (X.blk s H scope (compEnvC scope cl C X.env) fp) tg (own.map (·.2)) g pv)
    (ht : ∀ (s : Shared) (H : Hp) (C : Addr) (cl : List (Str × Addr)) (fp : List Addr), LTs (X.blk s H scope (compEnvC scope cl C X.env) fp) pv WF ifs t)
    (he : ∀ (s : Shared) (H : Hp) (C : Addr) (cl : List (Str × Addr)) (fp : List Addr), LE (X.blk s H scope (compEnvC scope cl C X.env) fp) pv WF elt d) (hs : ∀ x, foldedSetIterable iter X.env x = pure x := by intro _; rfl) :
    LE X pv W (.ListComp elt [⟨tg, iter, ifs, 0⟩] scope pos) (dComp (own.map (·.2)) ds g t d) :=
  weakE (pe_lc (g := TGo X.K pv (own.map (·.2)) g) (tt := TBd X pv WF t) (te := TEd X pv WF d) hc hN hi ok hg ht he hs) fun σ H Q ⟨M, F, ρ, S, q⟩ => jmh hpo S q
theorem jj1 {i : Nat} {y : Str} {py spos : Pos} (hc : X.calm = true) (hN : X.N.Nodup) (hsw : swapsWith (.ListComp elt [⟨tg, iter, ifs, 0⟩] scope pos) (some (.Name y py)) spos.line X.env = pure true) (hi : LI X pv W tg iter ds) (ok : BlkOk X.N X.env.scope scope own) (hpo : ∀ i ∈ own.map (·.2), pv i = none)
    (hg : ∀ (s : Shared) (H : Hp) (C : Addr) (cl : List (Str × Addr)) (fp : List Addr), TgIn (X.blk s H scope (compEnvC scope cl C X.env) fp) tg (own.map (·.2)) g pv)
    (ht : ∀ (s : Shared) (H : Hp) (C : Addr) (cl : List (Str × Addr)) (fp : List Addr), LTs (X.blk s H scope (compEnvC scope cl C X.env) fp) pv WF ifs t)
    (he : ∀ (s : Shared) (H : Hp) (C : Addr) (cl : List (Str × Addr)) (fp : List Addr), LE (X.blk s H scope (compEnvC scope cl C X.env) fp) pv WF elt d)
    (hy : X.N[i]? = some y := by rfl) (hyl : X.env.scope.names.lookup y = some .local := by rfl) (hp : pv i = none := by rfl) (hs : ∀ x, foldedSetIterable iter X.env x = pure x := by intro _; rfl) :
    LS X pv W (.Assign [.Name y py] (.ListComp elt [⟨tg, iter, ifs, 0⟩] scope pos) spos) (sSet i (dComp (own.map (·.2)) ds g t d)) :=
  weakS (ps_setLc (g := TGo X.K pv (own.map (·.2)) g) (tt := TBd X pv WF t) (te := TEd X pv WF d) hc hN hy hyl hsw hi ok hg ht he hs) fun D σ H ⟨M, F, ρ, S, q⟩ => by
    have q' : VQ X.K X.mg pv σ H M F W (fun v H1 => gName i v σ H1 D.nx) (dComp (own.map (·.2)) ds g t d ρ) := by
      unfold sSet at q
      cases e : dComp (own.map (·.2)) ds g t d ρ with
      | bad => rw [e] at q; exact q
      | ex x ρ' => rw [e] at q; exact fun cls dd H' M' F' a b c => q cls dd σ H' M' F' a b c
      | ok a =>
        rw [e] at q
        intro v H' M' fv F' h1 h2 h3 h4
        obtain ⟨F2, S', h⟩ := h2.slot hp h1 h3
        exact q _ H' M' F2 S' (h4.sub h)
    exact jmh hpo S q'
end
inductive FR where
  | ok (t : T) (os : List T) | ex (x : Ex) (os : List T) | bad
abbrev FD := List T → FR
def outs (ino : List Nat) (ρ : Env) : Option (List T) := ino.mapM fun i => rVar i ρ
def fRun (N : Nat) (ino : List Nat) (body : Ds) : FD := fun ts => match body (ts.map some ++ List.replicate (N - ts.length) none) with
  | .rt t ρ => (match outs ino ρ with | some os => .ok t os | none => .bad)
  | .nx ρ => (match outs ino ρ with | some os => .ok .non os | none => .bad)
  | .ex x ρ => (match outs ino ρ with | some os => .ex x os | none => .bad)
  | _ => .bad
def FQ (K : PySem.W.Frag) (mg : Str → Option Value) (ino : List Nat) (vs : List V) (H : Hp) (M : MS) (fp : List Addr) (Q : VK) (E : XK) : FR → Prop
  | .ok t os => ∀ v H' M' fv fo ws, ino.mapM (fun i => vs[i]?) = some ws → Rep K H' M' fv v t → Reps K H' M' fo ws os → (fv ++ fo).Nodup → Stp H M fp H' M' (fv ++ fo) → Q v H'
  | .ex x os => ∀ cls d H' M' fo ws, ino.mapM (fun i => vs[i]?) = some ws → ExR mg H' cls d x → Reps K H' M' fo ws os → fo.Nodup → Stp H M fp H' M' fo → E cls d H'
  | .bad => False
structure Rm (k : Nat) (A : Around) : Prop extends Room k A where
  gd : A.guards = some []
theorem Rm.less {j k : Nat} {A : Around} (r : Rm k A) (h : j ≤ k) : Rm j A := ⟨r.toRoom.mono h, r.gd⟩
theorem Rm.down {k : Nat} {A : Around} (r : Rm (k + 1) A) (env : PySem.Env) : Rm k (A.deeper env) := ⟨r.toRoom.deeper env, r.gd⟩
structure FnG (P : Program) (w : World) (K : PySem.W.Frag) (mg : Str → Option Value) (base : Heap) (k : Nat) (f : Addr) (fd : FuncData) (ps : List Str) (sp : Sp) : Prop where
  args : ∀ vs H Q E, sp vs H Q E → vs.length = ps.length
  goes : ∀ (A : Around) (outer : List PySem.Env) (s : Shared) (H : Hp) (ar : Args) (us : List Value) (vs : List V) (Q : VK) (E : XK),
    Rm k A → Env0 P w K mg base A outer s H → BindsTo s fd ar (ps.zip us) → Vals vs us → sp vs H Q E →
    codeAny (model P w) A (.call (.ref f) ar) (CR (L2.CX P w) outer P w H s Q E) s
theorem FnG.weak {P : Program} {w : World} {K : PySem.W.Frag} {mg : Str → Option Value} {base : Heap} {k : Nat} {f : Addr} {fd : FuncData} {ps : List Str} {sp sp' : Sp} (F : FnG P w K mg base k f fd ps sp) (h : ∀ vs H Q E, sp' vs H Q E → sp vs H Q E) :
    FnG P w K mg base k f fd ps sp' where
  args := fun vs H Q E q => F.args vs H Q E (h vs H Q E q)
  goes := fun A outer s H ar us vs Q E r e b v q => F.goes A outer s H ar us vs Q E r e b v (h vs H Q E q)
theorem FnG.less {P : Program} {w : World} {K : PySem.W.Frag} {mg : Str → Option Value} {base : Heap} {j k : Nat} {f : Addr} {fd : FuncData} {ps : List Str} {sp : Sp} (F : FnG P w K mg base j f fd ps sp) (h : j ≤ k) : FnG P w K mg base k f fd ps sp where
  args := F.args
  goes := fun A outer s H ar us vs Q E r => F.goes A outer s H ar us vs Q E (r.less h)
section
variable {X : Cx} {k : Nat} {f : Addr} {fd : FuncData} {ps : List Str} {sp : Sp} {E : L2.St → XK} {e : Expr} {es : List Expr} {t : TA} {x : Str} {p pos : Pos}
theorem goes_call {pins : List (Addr × Obj)} {σ : L2.St} {H : Hp} {s : Shared} {Q : VK} {us : List Value} {vs : List V} (F : FnG X.prog X.w X.K X.mg X.base k f fd ps sp) (room : Rm k X.A) (bind : Binds X.K fd ps []) (out : PassesAt (L2.CX X.prog X.w) X σ (E σ))
    (I : Inv X pins σ H s) (r : Vals vs us) (h : sp vs H Q (E σ)) : wpAny (model X.prog X.w) X.A (call (.ref f) us) (EP X pins σ Q) X.xe s := by
  have b := bind s us I.kIn (by rw [List.append_nil, ← r.length]; exact F.args _ _ _ _ h)
  rw [List.append_nil] at b
  refine wpAny_call (codeAny_mono (F.goes X.A X.stack s H ⟨us, []⟩ us vs Q (E σ) room I.env0 b r h) fun res s2 w2 => ?_)
  match res, w2 with
  | .error err, w2 => exact out pins H s err s2 I w2
  | .ok (.ret u), w2 => exact I.after w2
theorem pe_goes (F : FnG X.prog X.w X.K X.mg X.base k f fd ps sp) (room : Rm k X.A) (hg : Gl X x) (hm : X.mg x = some (.ref f)) (hk : PySem.W.keepIn X.K (.ref f) = true) (bind : Binds X.K fd ps []) (out : ∀ σ, PassesAt (L2.CX X.prog X.w) X σ (E σ))
    (ha : PA X (e :: es) t) (hdb : (x == ("__debug__" : Str)) = false := by decide) (he : starEach (e :: es) X.env = (false, eval e X.env) :: starEach es X.env := by rfl) (hpl : (backTo pos (starEach es X.env)).any (·.1) = false := by rfl) :
    PE X (.Call (.Name x p) (e :: es) [] pos) (tCallS sp E t) where
  run := fun pins s σ H Q I h => wpAny_Call_Name_kw (ld_glob I hg hm (PySem.W.callWith_K (h₀ := X.base) I.ok.mod.kin hk (thn (ha.run pos pins s σ H _ I h) fun us s1 ⟨vs, H1, J, r, q⟩ => ⟨J.kIn, goes_call F room bind (out σ) J r q⟩) he hpl) hdb)
end
theorem goes_of {P : Program} {w : World} {K : PySem.W.Frag} {mg : Str → Option Value} {base : Heap} {x qual : Str} {st : Stmt} {f : Addr} {fd : FuncData} {N ps : List Str} {k : Nat} {sp : Sp} (Fd : Fun K x qual st f fd) (S : FnScope N ps (defScope st))
    (args : ∀ vs H Q E, sp vs H Q E → vs.length = ps.length)
    (body : ∀ (cdv : Value) (A : Around) (outer : List PySem.Env) (s : Shared) (H : Hp) (vs : List V) (Q : VK) (E : XK), (∃ o fdd, K.lookup f = some o ∧ o.data = .func fdd ∧ fdd.code = cdv) → Rm k (A.deeper (envOfC qual (defScope st) s.heap.objs.size f cdv)) → sp vs H Q E →
      ∃ t, PSs (cxOf (L2.CX P w) P w K mg base N qual (defScope st) f cdv A outer s H E) (defBody st) t ∧ t { nx := fun _ H' => Q .non H', rt := Q } (L2.start N vs) H) : FnG P w K mg base (k + 1) f fd ps sp := by
  obtain ⟨oc, od, kV, doc, pm, an, cdv, ct, osl, rfl, lk, hcd⟩ := Fd.ex
  refine ⟨args, fun A outer s H ar us vs Q E room e0 hb r want => ?_⟩
  have kin : K.In s.heap := e0.mod.kin.keeps fun b o e => (e0.bs b o e).1
  have par : ∀ y ∈ ps.zip us, (defScope st).names.lookup y.1 = some .local ∨ ((defScope st).names.lookup y.1 = some .cell ∧ ((cellsFrom (s.heap.objs.size + 1) (defScope st).names []).lookup y.1).isSome = true) := by
    rintro ⟨n, v⟩ hy
    exact (S.par n (List.of_mem_zip hy).1).imp id fun q => ⟨q, PySem.W.cellsFrom_some _ _ _ (.inl q)⟩
  refine codeAny_call_function room.toRoom.depth (kin _ _ lk) rfl S.co S.gen rfl (PySem.W.codeRec_of kin hcd) (hb _ _ _ _ (wpAny_newFunctionEnv_cells S.kind par ?_))
  rintro _ rfl s1 inC
  refine ⟨(e0.mod.nolimit.keeps fun b o e => (e0.bs b o e).1).keeps inC.toInCall.keep, codeAny_func ?_⟩
  obtain ⟨t, wt, goal⟩ := body cdv A outer s H vs Q E ⟨_, _, lk, rfl, rfl⟩ (room.down _) want
  have fin : ∀ {σ2 : L2.St} {H2 : Hp} {v : V} {u : Value} {s2 : Shared}, Inv (cxOf (L2.CX P w) P w K mg base N qual (defScope st) f cdv A outer s H E) [] σ2 H2 s2 → RelV v u → Q v H2 → CE outer P w H s Q u s2 :=
    fun J rv q => ⟨_, _, J.os, J.bare, J.base, J.hok, rv, q⟩
  refine wpAny_mono (wt.run [] s1 (L2.start N vs) H _ (inv_start S room.toRoom.hd e0 (args _ _ _ _ want) r inC) goal) (fun fl s2 e2 => ?_) fun _ _ e2 => e2
  match fl, e2 with
  | .ret u, ⟨v, _, H2, J, rv, q⟩ => exact fin J rv q
  | .next, ⟨_, H2, J, q⟩ => exact fin (v := V.non) (u := Value.none) J rfl q
  | .brk, ⟨_, _, _, q⟩ => exact q.elim
  | .cont, ⟨_, _, _, q⟩ => exact q.elim
def spQ (K : PySem.W.Frag) (mg : Str → Option Value) (n : Nat) (ino : List Nat) (f : FD) : Sp := fun vs H Q E => vs.length = n ∧ ∃ M fp ts, jkq K H M ∧ Reps K H M fp vs ts ∧ fp.Nodup ∧ FQ K mg ino vs H M fp Q E (f ts)
abbrev FnQ (P : Program) (w : World) (K : PySem.W.Frag) (mg : Str → Option Value) (base : Heap) (k : Nat) (a : Addr) (fd : FuncData) (ps : List Str) (ino : List Nat) (f : FD) : Prop :=
  FnG P w K mg base k a fd ps (spQ K mg ps.length ino f)
def Pin (ino : List Nat) (vs : List V) : Pins := fun i => if ino.contains i = true then vs[i]? else none
section
variable {K : PySem.W.Frag} {mg : Str → Option Value} {H H1 H2 : Hp} {M M1 M2 : MS} {F F1 F2 G fv fp : List Addr} {σ σ2 : Sg} {ρ ρ1 : Env} {ts : List T} {vs : List V}
theorem jis (tb : jkq K H M) : ∀ {vs : List V} {ts : List T} {fp : List Addr} (n : Nat), Reps K H M fp vs ts → ERep K H M fp (vs.map some ++ List.replicate n none) (ts.map some ++ List.replicate n none)
  | _, _, _, 0, .nil => .nil tb
  | _, _, _, n + 1, .nil => .none (jis tb n .nil)
  | _, _, _, n, .cons r rs => .some r (jis tb n rs)
theorem jih : ∀ {ino : List Nat} {F : List Addr} {σ : Sg} {ρ : Env} {os : List T} {ws : List V}, ERep K H M F σ ρ → F.Nodup → ino.Nodup → outs ino ρ = some os → ino.mapM (fun i => vs[i]?) = some ws →
    (∀ i v, i ∈ ino → vs[i]? = some v → σ[i]? = some (some v)) → ∃ fo G, Reps K H M fo ws os ∧ (fo ++ G).Nodup ∧ (∀ a ∈ fo ++ G, a ∈ F) ∧ ∃ ρ', ERep K H M G σ ρ'
  | [], F, σ, ρ, os, ws, r, nd, _, e1, e2, _ => by
    simp [outs] at e1
    simp at e2
    subst e1; subst e2
    exact ⟨[], F, .nil, by simpa using nd, fun a h => by simpa using h, ρ, r⟩
  | i :: ino, F, σ, ρ, os, ws, r, nd, ni, e1, e2, hp => by
    unfold outs at e1
    rw [List.mapM_cons] at e1 e2
    cases h1 : rVar i ρ with
    | none => rw [h1] at e1; cases e1
    | some t =>
      cases h2 : vs[i]? with
      | none => rw [h2] at e2; cases e2
      | some v =>
        cases h3 : ino.mapM (fun i => vs[i]?) with
        | none => rw [h2, h3] at e2; cases e2
        | some ws' =>
          cases h4 : ino.mapM (fun i => rVar i ρ) with
          | none => rw [h1, h4] at e1; cases e1
          | some os' =>
            rw [h1, h4] at e1; rw [h2, h3] at e2
            cases e1; cases e2
            obtain ⟨v', fq, G, g1, g2, g3, g4⟩ := r.take (je5 h1)
            rw [hp i v List.mem_cons_self h2] at g1
            cases g1
            have nG : (fq ++ G).Nodup := jks g4 nd
            have e5 : outs ino (ρ.set i none) = some os' := by
              rw [← h4]
              unfold outs
              have : ∀ js : List Nat, (∀ j ∈ js, j ≠ i) → js.mapM (fun j => rVar j (ρ.set i none)) = js.mapM (fun j => rVar j ρ) := by
                intro js
                induction js with
                | nil => intro _; rfl
                | cons j js ih =>
                  intro hj
                  rw [List.mapM_cons, List.mapM_cons, ih fun k hk => hj k (List.mem_cons_of_mem _ hk)]
                  have : rVar j (ρ.set i none) = rVar j ρ := by
                    unfold rVar
                    rw [List.getElem?_set_ne (fun z => hj j List.mem_cons_self z.symm)]
                  rw [this]
              exact this ino fun j hj z => (List.nodup_cons.mp ni).1 (z ▸ hj)
            obtain ⟨fo, G2, k1, k2, k3, ρ', k4⟩ := jih (ino := ino) g3 (List.nodup_append.mp nG).2.1 (List.nodup_cons.mp ni).2 e5 h3 fun j w hj => hp j w (List.mem_cons_of_mem _ hj)
            refine ⟨fq ++ fo, G2, .cons g2 k1, ?_, fun a ha => ?_, ρ', k4⟩
            · rw [List.append_assoc]
              exact List.nodup_append.mpr ⟨(List.nodup_append.mp nG).1, k2, fun a ha b hb e => (List.nodup_append.mp nG).2.2 a ha b (k3 b hb) e⟩
            · rw [List.append_assoc] at ha
              rcases List.mem_append.mp ha with z | z
              · exact g4.mem_iff.mpr (List.mem_append_left _ z)
              · exact g4.mem_iff.mpr (List.mem_append_right _ (k3 a z))
end
section
variable {P : Program} {w : World} {K : PySem.W.Frag} {mg : Str → Option Value} {base : Heap}
theorem fn_okC {x qual : Str} {st : Stmt} {f : Addr} {fd : FuncData} {N ps : List Str} {k : Nat} {ino : List Nat} {body : Ds} (Fd : Fun K x qual st f fd) (S : FnScope N ps (defScope st)) (ni : ino.Nodup) (hl : ∀ i ∈ ino, i < ps.length)
    (hb : ∀ (X : Cx) (vs : List V) (W : WX) (cdv : Value) (A : Around) (outer : List PySem.Env) (s : Shared) (H : Hp) (E : XK), (∃ o fdd, K.lookup f = some o ∧ o.data = .func fdd ∧ fdd.code = cdv) → X = cxOf (L2.CX P w) P w K mg base N qual (defScope st) f cdv A outer s H E → Rm k X.A → Takes X W → LSs X (Pin ino vs) W (defBody st) body) :
    FnQ P w K mg base (k + 1) f fd ps ino (fRun N.length ino body) := by
  refine goes_of Fd S (fun vs H Q E h => h.1) fun cdv A outer s H vs Q E hcd hr ⟨hn, M, fp, ts, tb, r, nd, q⟩ => ?_
  refine ⟨_, hb _ vs (fun cls d _ H => E cls d H) cdv A outer s H E hcd rfl hr (takes_of rfl rfl rfl rfl), ?_⟩
  have hlen : ts.length = ps.length := by rw [← r.length]; exact hn
  have hNs : L2.start N vs = vs.map some ++ List.replicate (N.length - ts.length) none := by rw [← r.length]; rfl
  have pin0 : ∀ i v, Pin ino vs i = some v → (L2.start N vs)[i]? = some (some v) := fun i v h => by
    unfold Pin at h
    split at h
    · rename_i hi
      unfold L2.start
      rw [List.getElem?_append_left (by simpa using (List.getElem?_eq_some_iff.mp h).1), List.getElem?_map, h]; rfl
    · cases h
  refine ⟨M, fp, ts.map some ++ List.replicate (N.length - ts.length) none, ⟨by rw [hNs]; exact jis tb _ r, nd, pin0⟩, ?_⟩
  have all : ∃ ws, ino.mapM (fun i => vs[i]?) = some ws := by
    have : ∀ js : List Nat, (∀ j ∈ js, j < vs.length) → ∃ ws, js.mapM (fun i => vs[i]?) = some ws := by
      intro js
      induction js with
      | nil => intro _; exact ⟨[], rfl⟩
      | cons j js ih =>
        intro hj
        obtain ⟨ws, e⟩ := ih fun k hk => hj k (List.mem_cons_of_mem _ hk)
        have : vs[j]? = some (vs[j]'(hj j List.mem_cons_self)) := by simp [hj j List.mem_cons_self]
        exact ⟨_, by rw [List.mapM_cons, this, e]; rfl⟩
    exact this ino fun j hj => by have := hl j hj; omega
  obtain ⟨ws, ews⟩ := all
  have pins : ∀ {σ' : Sg}, (∀ i v, Pin ino vs i = some v → σ'[i]? = some (some v)) → ∀ i v, i ∈ ino → vs[i]? = some v → σ'[i]? = some (some v) := fun h i v hi hv => h i v (by unfold Pin; rw [if_pos (by simpa using hi)]; exact hv)
  unfold fRun at q
  cases eb : body (ts.map some ++ List.replicate (N.length - ts.length) none) with
  | bad => rw [eb] at q; exact q
  | bk ρ' => rw [eb] at q; exact q.elim
  | ct ρ' => rw [eb] at q; exact q.elim
  | nx ρ' =>
    rw [eb] at q
    dsimp only at q
    cases eo : outs ino ρ' with
    | none => rw [eo] at q; exact q.elim
    | some os =>
      rw [eo] at q
      intro σ' H' M' F' S' st'
      obtain ⟨fo, G, k1, k2, k3, _⟩ := jih S'.rep S'.nd ni eo ews (pins S'.pin)
      exact q .non H' M' [] fo ws ews .non k1 (by simpa using (List.nodup_append.mp k2).1) (st'.sub fun a ha => k3 a (List.mem_append_left _ (by simpa using ha)))
  | rt t ρ' =>
    rw [eb] at q
    dsimp only at q
    cases eo : outs ino ρ' with
    | none => rw [eo] at q; exact q.elim
    | some os =>
      rw [eo] at q
      intro v σ' H' M' fv F' rv S' n' st'
      obtain ⟨fo, G, k1, k2, k3, _⟩ := jih S'.rep S'.nd ni eo ews (pins S'.pin)
      refine q v H' M' fv fo ws ews rv k1 (List.nodup_append.mpr ⟨(List.nodup_append.mp n').1, (List.nodup_append.mp k2).1, fun a ha b hb e => (List.nodup_append.mp n').2.2 a ha b (k3 b (List.mem_append_left _ hb)) e⟩) (st'.sub fun a ha => ?_)
      rcases List.mem_append.mp ha with z | z
      · exact List.mem_append_left _ z
      · exact List.mem_append_right _ (k3 a (List.mem_append_left _ z))
  | ex x ρ' =>
    rw [eb] at q
    dsimp only at q
    cases eo : outs ino ρ' with
    | none => rw [eo] at q; exact q.elim
    | some os =>
      rw [eo] at q
      intro cls d σ' H' M' F' re S' st'
      obtain ⟨fo, G, k1, k2, k3, _⟩ := jih S'.rep S'.nd ni eo ews (pins S'.pin)
      exact q cls d H' M' fo ws ews re k1 (List.nodup_append.mp k2).1 (st'.sub fun a ha => k3 a (List.mem_append_left _ ha))
theorem fn_ok {x qual : Str} {st : Stmt} {f : Addr} {fd : FuncData} {N ps : List Str} {k : Nat} {ino : List Nat} {body : Ds} (Fd : Fun K x qual st f fd) (S : FnScope N ps (defScope st)) (ni : ino.Nodup) (hl : ∀ i ∈ ino, i < ps.length)
    (hb : ∀ (X : Cx) (vs : List V) (W : WX) (cdv : Value) (A : Around) (outer : List PySem.Env) (s : Shared) (H : Hp) (E : XK), X = cxOf (L2.CX P w) P w K mg base N qual (defScope st) f cdv A outer s H E → Rm k X.A → Takes X W → LSs X (Pin ino vs) W (defBody st) body) :
    FnQ P w K mg base (k + 1) f fd ps ino (fRun N.length ino body) :=
  fn_okC Fd S ni hl fun X vs W cdv A outer s H E _ hX => hb X vs W cdv A outer s H E hX
end
def Lk (lk : List (Option Nat)) (vs : List V) (σ : Sg) : Prop := vs.length = lk.length ∧ ∀ (k i : Nat), lk[k]? = some (some i) → ∃ v, vs[k]? = some v ∧ σ[i]? = some (some v)
def VL (K : PySem.W.Frag) (mg : Str → Option Value) (pv : Pins) (lk : List (Option Nat)) (σ : Sg) (H : Hp) (M : MS) (F : List Addr) (W : WX) (Q : List V → Hp → Prop) : R (List T × Env) → Prop
  | .ok (ts, ρ') => ∀ vs H' M' fv F', Reps K H' M' fv vs ts → Lk lk vs σ → Sta K pv H' M' F' σ ρ' → (fv ++ F').Nodup → Stp H M F H' M' (fv ++ F') → Q vs H'
  | .ex x ρ' => ∀ cls d H' M' F', ExR mg H' cls d x → Sta K pv H' M' F' σ ρ' → Stp H M F H' M' F' → W cls d σ H'
  | .bad => False
def TLd (X : Cx) (pv : Pins) (W : WX) (lk : List (Option Nat)) (d : Da) : TA := fun σ H Q => ∃ M F ρ, Sta X.K pv H M F σ ρ ∧ VL X.K X.mg pv lk σ H M F W Q (d ρ)
abbrev LL (X : Cx) (pv : Pins) (W : WX) (es : List Expr) (lk : List (Option Nat)) (d : Da) : Prop := PA X es (TLd X pv W lk d)
section
variable {X : Cx} {pv : Pins} {W : WX} {e : Expr} {es : List Expr} {d : De} {ds : Da} {lk : List (Option Nat)}
variable {K : PySem.W.Frag} {mg : Str → Option Value} {H H1 H2 : Hp} {M M1 M2 : MS} {F F1 F2 G fv fp : List Addr} {σ σ2 : Sg} {ρ ρ1 : Env} {ts : List T} {vs : List V}
theorem jaq : LL X pv W [] [] dNil := weakA pa_nil fun σ H Q ⟨M, F, ρ, S, h⟩ => h [] H M [] F .nil ⟨rfl, fun k i z => by simp at z⟩ S (by simpa using S.nd) (by simpa using Stp.refl)
theorem TLd.mono {d : Da} {Q Q' : List V → Hp → Prop} (h : TLd X pv W lk d σ H Q) (w : ∀ v H, Q v H → Q' v H) : TLd X pv W lk d σ H Q' := by
  obtain ⟨M, F, ρ, S, q⟩ := h
  refine ⟨M, F, ρ, S, ?_⟩
  cases e : d ρ with
  | bad => rw [e] at q; exact q
  | ex x ρ' => rw [e] at q; exact q
  | ok a => rw [e] at q; exact fun v H' M' fv F' a b c d f => w _ _ (q v H' M' fv F' a b c d f)
theorem stepL {α : Type} {ds : Da} {k : List T → Env → R α} {P : R α → Prop} (held : Reps X.K H1 M1 fv vs ts) (S1 : Sta X.K pv H1 M1 F1 σ ρ1) (nd : (fv ++ F1).Nodup) (st : Stp H M F H1 M1 (fv ++ F1))
    (hex : ∀ x ρ', P (.ex x ρ') → ∀ cls d H' M' F', ExR X.mg H' cls d x → Sta X.K pv H' M' F' σ ρ' → Stp H M F H' M' F' → W cls d σ H') (hbad : ¬ P .bad) (h : P ((ds ρ1).bind fun a => k a.1 a.2)) :
    TLd X pv W lk ds σ H1 (fun v2 H2 => ∃ t2 ρ2 M2 fv2 F2, Reps X.K H2 M2 (fv ++ fv2) (vs ++ v2) (ts ++ t2) ∧ Lk lk v2 σ ∧ Sta X.K pv H2 M2 F2 σ ρ2 ∧ ((fv ++ fv2) ++ F2).Nodup ∧ Stp H M F H2 M2 ((fv ++ fv2) ++ F2) ∧ P (k t2 ρ2)) := by
  refine ⟨M1, F1, ρ1, S1, ?_⟩
  cases e : ds ρ1 with
  | bad => rw [e] at h; exact hbad h
  | ex x ρ' =>
    rw [e] at h
    exact ex_of st (hex x ρ' h)
  | ok a =>
    obtain ⟨t2, ρ2⟩ := a
    rw [e] at h
    intro v2 H2 M2 fv2 F2 r2 l2 S2 nd2 st2
    obtain ⟨held2, dj⟩ := held.hold S1.rep.own nd st2
    refine ⟨t2, ρ2, M2, fv2, F2, held2.app r2, l2, S2, ?_, ?_, h⟩
    · rw [List.append_assoc]; exact nd3 nd nd2 dj
    · rw [List.append_assoc]; exact st.trans st2
theorem exL {Q : List V → Hp → Prop} (x : Ex) (ρ' : Env) (h : VL K mg pv lk σ H M F W Q (.ex x ρ')) : ∀ cls d H' M' F', ExR mg H' cls d x → Sta K pv H' M' F' σ ρ' → Stp H M F H' M' F' → W cls d σ H' := h
theorem jao (h : LE X pv W e d) (hs : LL X pv W es lk ds) (hst : starEach (e :: es) X.env = (false, eval e X.env) :: starEach es X.env := by rfl) : LL X pv W (e :: es) (none :: lk) (dCons d ds) := by
  refine weakA (pa_cons h hs hst) fun σ H Q ⟨M, F, ρ, S, q⟩ => ?_
  refine (stepE (k := fun t ρ1 => (ds ρ1).bind fun b => .ok (t :: b.1, b.2)) (P := VL X.K X.mg pv (none :: lk) σ H M F W Q) (fv := []) .nil S S.nd .refl exL id q).mono fun v H1 ⟨t1, ρ1, M1, fv1, F1, a1, a2, a3, a4, a5⟩ => ?_
  refine (stepL (k := fun us ρ1 => .ok (t1 :: us, ρ1)) (P := VL X.K X.mg pv (none :: lk) σ H M F W Q) a1 a2 a3 a4 exL id a5).mono fun vs H2 ⟨ts, ρ2, M2, fv2, F2, b1, b2, b3, b4, b5, b6⟩ => ?_
  refine b6 _ _ _ _ _ b1 ⟨by simp [b2.1], fun k i z => ?_⟩ b3 b4 b5
  cases k with
  | zero => simp at z
  | succ k => simpa using b2.2 k i (by simpa using z)
def dIno (i : Nat) (ds : Da) : Da := fun ρ => match rVar i ρ with
  | none => .bad
  | some _ => (ds ρ).bind fun b => match rVar i b.2 with
    | some t => .ok (t :: b.1, b.2.set i none)
    | none => .bad
theorem jd9 (i : Nat) {x : Str} {pos : Pos} (hs : LL X pv W es lk ds) (hN : X.N[i]? = some x := by rfl) (hv : Vis X.env.scope x := by first | exact Or.inl rfl | exact Or.inr (Or.inl rfl) | exact Or.inr (Or.inr rfl)) (hd : (x == ("__debug__" : Str)) = false := by decide)
    (hcd : (x == ("__classdict__" : Str)) = false := by decide) (hst : starEach (.Name x pos :: es) X.env = (false, eval (.Name x pos) X.env) :: starEach es X.env := by rfl) : LL X pv W (.Name x pos :: es) (some i :: lk) (dIno i ds) := by
  refine weakA (pa_cons (pe_var (pos := pos) hN hv hd hcd) hs hst) fun σ H Q ⟨M, F, ρ, S, q⟩ => ?_
  unfold dIno at q
  cases e : rVar i ρ with
  | none => rw [e] at q; exact q.elim
  | some t =>
    rw [e] at q
    obtain ⟨v, fp0, h1, h2, _⟩ := S.rep.get (je5 e)
    refine ⟨v, h1, M, F, ρ, S, ?_⟩
    simp only at q
    cases e2 : ds ρ with
    | bad => rw [e2] at q; exact q
    | ex x ρ' => rw [e2] at q; exact fun cls d H' M' F' a b c => q cls d H' M' F' a b c
    | ok b =>
      rw [e2] at q
      simp only [R.bind] at q
      intro vs H' M' fv F' r l S2 n st
      cases e3 : rVar i b.2 with
      | none => rw [e3] at q; exact q.elim
      | some t2 =>
        rw [e3] at q
        obtain ⟨v', fp, G, k1, k2, k3, k4⟩ := S2.rep.take (je5 e3)
        rw [h1] at k1; cases k1
        have pm : (fv ++ F').Perm ((fp ++ fv) ++ G) := by
          refine (List.Perm.append_left fv k4).trans ?_
          rw [← List.append_assoc]
          exact List.perm_append_comm.append_right G
        have n2 := jks pm n
        refine q (v :: vs) H' M' (fp ++ fv) G (.cons k2 r) ⟨by simp [l.1], fun k j z => ?_⟩ ⟨k3, (List.nodup_append.mp n2).2.1, S2.pin⟩ n2 (st.sub fun a h => pm.mem_iff.mpr h)
        cases k with
        | zero =>
          simp at z; subst z
          exact ⟨v, by simp, h1⟩
        | succ k => simpa using l.2 k j (by simpa using z)
def jah (lk : List (Option Nat)) : List Nat → List T → Env → Option Env
  | [], [], ρ => some ρ
  | i :: is, o :: os, ρ => match lk[i]? with
    | some (some s) => (match ρ[s]? with | some none => jah lk is os (ρ.set s (some o)) | _ => none)
    | some none => jah lk is os ρ
    | none => none
  | _, _, _ => none
def dCall (f : FD) (ino : List Nat) (lk : List (Option Nat)) (ds : Da) : De := fun ρ => (ds ρ).bind fun x => match f x.1 with
  | .ok t os => (match jah lk ino os x.2 with | some ρ' => .ok (t, ρ') | none => .bad)
  | .ex z os => (match jah lk ino os x.2 with | some ρ' => .ex z ρ' | none => .bad)
  | .bad => .bad
theorem jhc : ∀ {is : List Nat} {os : List T} {ρ ρ' : Env} {F fo : List Addr} {ws : List V}, jah lk is os ρ = some ρ' → Sta K pv H M F σ ρ → is.mapM (fun i => vs[i]?) = some ws → Reps K H M fo ws os → (fo ++ F).Nodup →
    Lk lk vs σ → ∃ F', Sta K pv H M F' σ ρ' ∧ ∀ a ∈ F', a ∈ fo ++ F
  | [], [], ρ, ρ', F, fo, ws, e, S, ew, r, nd, hl => by
    cases e
    exact ⟨F, S, fun a h => List.mem_append_right _ h⟩
  | [], _ :: _, _, _, _, _, _, e, _, _, _, _, _ => by cases e
  | _ :: _, [], _, _, _, _, _, e, _, _, _, _, _ => by cases e
  | i :: is, o :: os, ρ, ρ', F, fo, ws, e, S, ew, r, nd, hl => by
    rw [List.mapM_cons] at ew
    cases h2 : vs[i]? with
    | none => rw [h2] at ew; cases ew
    | some v =>
      cases h3 : is.mapM (fun i => vs[i]?) with
      | none => rw [h2, h3] at ew; cases ew
      | some ws' =>
        rw [h2, h3] at ew
        cases ew
        cases r with
        | @cons fp fq v' t' vs' ts' r rs =>
          rw [List.append_assoc] at nd
          have nq : (fq ++ F).Nodup := (List.nodup_append.mp nd).2.1
          unfold jah at e
          split at e
          · rename_i s hs
            split at e
            · rename_i hn
              obtain ⟨v2, g1, g2⟩ := hl.2 i s hs
              rw [h2] at g1; cases g1
              obtain ⟨F2, r2, p⟩ := S.rep.put hn r
              rw [jin g2] at r2
              have n' : (fp ++ F).Nodup := nd.sublist (List.Sublist.append (.refl fp) (List.sublist_append_right fq F))
              have nF2 : F2.Nodup := p.nodup_iff.mpr n'
              have n2 : (fq ++ F2).Nodup := by
                refine ((List.Perm.append_left fq p).nodup_iff).mpr ?_
                refine (List.Perm.nodup_iff ?_).mp nd
                rw [← List.append_assoc, ← List.append_assoc]
                exact List.perm_append_comm.append_right F
              obtain ⟨F3, k1, k2⟩ := jhc e ⟨r2, nF2, S.pin⟩ h3 rs n2 hl
              refine ⟨F3, k1, fun a ha => ?_⟩
              rw [List.append_assoc]
              rcases List.mem_append.mp (k2 a ha) with z | z
              · exact List.mem_append_right _ (List.mem_append_left _ z)
              · rcases List.mem_append.mp (p.mem_iff.mp z) with z | z
                · exact List.mem_append_left _ z
                · exact List.mem_append_right _ (List.mem_append_right _ z)
            · cases e
          · obtain ⟨F3, k1, k2⟩ := jhc e S h3 rs nq hl
            refine ⟨F3, k1, fun a ha => ?_⟩
            rw [List.append_assoc]
            exact List.mem_append_right _ (k2 a ha)
          · cases e
theorem call_end {f : FD} {n : Nat} {ino : List Nat} {Q : VK} (hn : lk.length = n)
    (held : Reps X.K H1 M1 fv vs ts) (hl : Lk lk vs σ) (S1 : Sta X.K pv H1 M1 F1 σ ρ1) (nd : (fv ++ F1).Nodup) (st : Stp H M F H1 M1 (fv ++ F1))
    (h : VQ X.K X.mg pv σ H M F W Q (match f ts with
      | .ok t os => (match jah lk ino os ρ1 with | some ρ' => .ok (t, ρ') | none => .bad)
      | .ex z os => (match jah lk ino os ρ1 with | some ρ' => .ex z ρ' | none => .bad)
      | .bad => .bad)) : spQ X.K X.mg n ino f vs H1 Q (fun cls d H' => W cls d σ H') := by
  have dj : ∀ a ∈ F1, a ∉ fv := fun a h h' => (List.nodup_append.mp nd).2.2 a h' a h rfl
  have back : ∀ {H2 : Hp} {M2 : MS} {G : List Addr}, Stp H1 M1 fv H2 M2 G → G.Nodup → Sta X.K pv H2 M2 F1 σ ρ1 ∧ (G ++ F1).Nodup ∧ Stp H M F H2 M2 (G ++ F1) := fun {H2 M2 G} s nG => by
    have dG : ∀ a ∈ F1, a ∉ G := fun a h h' => by
      rcases s.new a h' with z | z
      · exact dj a h z
      · obtain ⟨x, e⟩ := S1.rep.own.some_ h
        rw [e] at z; cases z
    refine ⟨⟨S1.rep.frm s.frm held.own dj, S1.nd, S1.pin⟩, List.nodup_append.mpr ⟨nG, S1.nd, fun a ha b hb e => dG b hb (e ▸ ha)⟩, ?_⟩
    have s1 : Stp H M F H1 M1 (F1 ++ fv) := st.sub fun a h => (List.mem_append.mp h).elim (List.mem_append_right _) (List.mem_append_left _)
    exact (s1.trans s).sub fun a h => (List.mem_append.mp h).elim (List.mem_append_right _) (List.mem_append_left _)
  cases ef : f ts with
  | bad => rw [ef] at h; exact h.elim
  | ok t os =>
    refine ⟨hl.1.trans hn, M1, fv, ts, S1.rep.tabs, held, (List.nodup_append.mp nd).1, ?_⟩
    rw [ef] at h ⊢
    dsimp only at h
    cases ep : jah lk ino os ρ1 with
    | none => rw [ep] at h; exact h.elim
    | some ρ' =>
      rw [ep] at h
      intro v H' M' fv' fo ws ews r1 r2 n1 s1
      obtain ⟨S2, n2, s2⟩ := back s1 n1
      rw [List.append_assoc] at n2
      obtain ⟨F3, k1, k2⟩ := jhc ep S2 ews r2 (List.nodup_append.mp n2).2.1 hl
      refine h v H' M' fv' F3 r1 k1 (List.nodup_append.mpr ⟨(List.nodup_append.mp n2).1, k1.nd, fun a ha b hb e => (List.nodup_append.mp n2).2.2 a ha b (k2 b hb) e⟩) (s2.sub fun a ha => ?_)
      rw [List.append_assoc]
      rcases List.mem_append.mp ha with z | z
      · exact List.mem_append_left _ z
      · exact List.mem_append_right _ (k2 a z)
  | ex x os =>
    refine ⟨hl.1.trans hn, M1, fv, ts, S1.rep.tabs, held, (List.nodup_append.mp nd).1, ?_⟩
    rw [ef] at h ⊢
    dsimp only at h
    cases ep : jah lk ino os ρ1 with
    | none => rw [ep] at h; exact h.elim
    | some ρ' =>
      rw [ep] at h
      intro cls d H' M' fo ws ews re r2 n1 s1
      obtain ⟨S2, n2, s2⟩ := back s1 n1
      obtain ⟨F3, k1, k2⟩ := jhc ep S2 ews r2 n2 hl
      exact h cls d H' M' F3 re k1 (s2.sub k2)
theorem l_call {x : Str} {p pos : Pos} {k n : Nat} {f : FD} {a : Addr} {fd : FuncData} {ps : List Str} {ino : List Nat} (Gf : FnQ X.prog X.w X.K X.mg X.base k a fd ps ino f) (hr : Rm k X.A) (hm : X.mg x = some (.ref a)) (hk : PySem.W.keepIn X.K (.ref a) = true) (hb : Binds X.K fd ps []) (tk : Takes X W)
    (ha : LL X pv W (e :: es) lk ds) (hla : lk.length = ps.length := by rfl) (hg : Gl X x := by rfl) (hdb : (x == ("__debug__" : Str)) = false := by decide) (he : starEach (e :: es) X.env = (false, eval e X.env) :: starEach es X.env := by rfl) (hpl : (backTo pos (starEach es X.env)).any (·.1) = false := by rfl) :
    LE X pv W (.Call (.Name x p) (e :: es) [] pos) (dCall f ino lk ds) :=
  weakE (pe_goes (E := WE W) Gf hr hg hm hk hb (passAt tk) ha hdb he hpl) fun σ H Q ⟨M, F, ρ, S, q⟩ =>
    (stepL (k := fun ts ρ1 => (match f ts with
      | .ok t os => (match jah lk ino os ρ1 with | some ρ' => .ok (t, ρ') | none => .bad)
      | .ex z os => (match jah lk ino os ρ1 with | some ρ' => .ex z ρ' | none => .bad)
      | .bad => .bad : R (T × Env))) (P := VQ X.K X.mg pv σ H M F W Q) (fv := []) .nil S S.nd .refl exQ id q).mono fun vs H1 ⟨ts, ρ1, M1, fv1, F1, a1, a2, a3, a4, a5, a6⟩ =>
        call_end hla a1 a2 a3 a4 a5 a6
end
end Q
namespace Q
open PySem PySem.Spec PyProof.Rows L2
variable [tbI : Tbl]
include tbI
mutual
def T.toD : T → PyData
  | .non => .none
  | .bl b => .bool b
  | .int i => .int i
  | .str x => .str x
  | .tup xs => .tuple (toDs xs)
  | .con _ => .none
  | .lst _ xs => .list (toDs xs)
  | .dic _ _ _ _ => .none
  | .ins _ _ _ _ => .none
def toDs : List T → List PyData
  | [] => []
  | x :: xs => x.toD :: toDs xs
end
mutual
def T.pl : T → Bool
  | .tup xs => pls xs
  | .con _ => false
  | .lst _ xs => pls xs
  | .dic _ _ _ _ => false
  | .ins _ _ _ _ => false
  | .non => true
  | .bl _ => true
  | .int _ => true
  | .str _ => true
def pls : List T → Bool
  | [] => true
  | x :: xs => x.pl && pls xs
end
mutual
def T.dep : T → Nat
  | .tup xs => deps xs + 1
  | .con _ => 0
  | .lst _ xs => deps xs + 1
  | .dic _ _ _ _ => 0
  | .ins _ _ _ _ => 0
  | .non => 0
  | .bl _ => 0
  | .int _ => 0
  | .str _ => 0
def deps : List T → Nat
  | [] => 0
  | x :: xs => max x.dep (deps xs)
end
mutual
def T.eqv : T → T → Bool
  | .non, y => (match y with | .non => true | _ => false)
  | .bl a, y => (match y with | .bl b => a == b | .int j => (if a then 1 else 0) == j | _ => false)
  | .int i, y => (match y with | .bl b => i == (if b then 1 else 0) | .int j => i == j | _ => false)
  | .str x, y => (match y with | .str z => x == z | _ => false)
  | .tup xs, y => (match y with | .tup ys => eqvs xs ys | _ => false)
  | .con _, _ => false
  | .lst _ xs, y => (match y with | .lst _ ys => eqvs xs ys | _ => false)
  | .dic _ _ _ _, _ => false
  | .ins _ _ _ _, _ => false
def eqvs : List T → List T → Bool
  | [], ys => (match ys with | [] => true | _ => false)
  | x :: xs, ys => (match ys with | y :: ys => x.eqv y && eqvs xs ys | [] => false)
end
mutual
theorem jmi : ∀ a b : T, a.pl = true → b.pl = true → PyData.eqv a.toD b.toD = a.eqv b
  | .non, b, _, h => by cases b <;> simp_all [T.toD, T.eqv, PyData.eqv, T.pl]
  | .bl _, b, _, h => by cases b <;> simp_all [T.toD, T.eqv, PyData.eqv, T.pl]
  | .int _, b, _, h => by cases b <;> simp_all [T.toD, T.eqv, PyData.eqv, T.pl]
  | .str _, b, _, h => by cases b <;> simp_all [T.toD, T.eqv, PyData.eqv, T.pl]
  | .tup xs, b, h1, h => by
    cases b with
    | tup ys => rw [T.toD, T.toD, T.eqv, PyData.eqv]; exact jln xs ys (by simpa [T.pl] using h1) (by simpa [T.pl] using h)
    | _ => simp_all [T.toD, T.eqv, PyData.eqv, T.pl]
  | .lst _ xs, b, h1, h => by
    cases b with
    | lst _ ys => rw [T.toD, T.toD, T.eqv, PyData.eqv]; exact jln xs ys (by simpa [T.pl] using h1) (by simpa [T.pl] using h)
    | _ => simp_all [T.toD, T.eqv, PyData.eqv, T.pl]
  | .con _, _, h, _ => by simp [T.pl] at h
  | .dic _ _ _ _, _, h, _ => by simp [T.pl] at h
  | .ins _ _ _ _, _, h, _ => by simp [T.pl] at h
theorem jln : ∀ a b : List T, pls a = true → pls b = true → PyData.eqvAll (toDs a) (toDs b) = eqvs a b
  | [], [], _, _ => by simp [toDs, eqvs, PyData.eqvAll]
  | [], _ :: _, _, _ => by simp [toDs, eqvs, PyData.eqvAll]
  | _ :: _, [], _, _ => by simp [toDs, eqvs, PyData.eqvAll]
  | x :: xs, y :: ys, h1, h2 => by
    rw [pls, Bool.and_eq_true] at h1 h2
    rw [toDs, toDs, PyData.eqvAll, eqvs, jmi x y h1.1 h2.1, jln xs ys h1.2 h2.2]
end
mutual
theorem jfc : ∀ a : T, a.toD.plain = true
  | .non => rfl
  | .bl _ => rfl
  | .int _ => rfl
  | .str _ => rfl
  | .tup xs => by rw [T.toD, PyData.plain]; exact jfq xs
  | .lst _ xs => by rw [T.toD, PyData.plain]; exact jfq xs
  | .con _ => rfl
  | .dic _ _ _ _ => rfl
  | .ins _ _ _ _ => rfl
theorem jfq : ∀ a : List T, PyData.plainAll (toDs a) = true
  | [] => rfl
  | x :: xs => by rw [toDs, PyData.plainAll, jfc x, jfq xs]; rfl
end
mutual
theorem jej : ∀ a : T, a.toD.depth ≤ a.dep
  | .non => Nat.le_refl _
  | .bl _ => Nat.le_refl _
  | .int _ => Nat.le_refl _
  | .str _ => Nat.le_refl _
  | .tup xs => by rw [T.toD, PyData.depth, T.dep]; exact Nat.succ_le_succ (jit xs)
  | .lst _ xs => by rw [T.toD, PyData.depth, T.dep]; exact Nat.succ_le_succ (jit xs)
  | .con _ => Nat.le_refl _
  | .dic _ _ _ _ => Nat.le_refl _
  | .ins _ _ _ _ => Nat.le_refl _
theorem jit : ∀ a : List T, PyData.depthAll (toDs a) ≤ deps a
  | [] => Nat.le_refl _
  | x :: xs => by
    rw [toDs, PyData.depthAll, deps]
    have h1 := jej x
    have h2 := jit xs
    omega
end
def T.eqOk (t : T) : Bool := t.pl && decide (t.dep ≤ 60)
section
variable {K : PySem.W.Frag} {H : Hp} {M : MS}
mutual
theorem Rep.dp : ∀ {fp : List Addr} {v : V} {t : T}, Rep K H M fp v t → t.pl = true → Dp K H v t.toD
  | _, _, _, .non, _ => .non
  | _, _, _, .bl b, _ => .bl b
  | _, _, _, .int i, _ => .int i
  | _, _, _, .str x, _ => .str x
  | _, _, _, .con _ _, h => by simp [T.pl] at h
  | _, _, _, .tup e r, h => by rw [T.toD]; exact .tup (.of e) (r.dp (by simpa [T.pl] using h))
  | _, _, _, .lstF e _ r, h => by rw [T.toD]; exact .lst (.inl e) (r.dp (by simpa [T.pl] using h))
  | _, _, _, .lstK e r, h => by rw [T.toD]; exact .lst (.inr e) (r.dp (by simpa [T.pl] using h))
  | _, _, _, .lstO e _ r, h => by rw [T.toD]; exact .lst (.inl (.inl e)) (r.dp (by simpa [T.pl] using h))
  | _, _, _, .dKF _ _ _, h => by simp [T.pl] at h
  | _, _, _, .dKO _ _ _, h => by simp [T.pl] at h
  | _, _, _, .dTF _ _ _, h => by simp [T.pl] at h
  | _, _, _, .dTO _ _ _, h => by simp [T.pl] at h
  | _, _, _, .exn _ _ _, h => by simp [T.pl] at h
  | _, _, _, .exl _ _ _ _, h => by simp [T.pl] at h
  | _, _, _, .insF _ _ _ _, h => by simp [T.pl] at h
  | _, _, _, .insO _ _ _ _, h => by simp [T.pl] at h
  | _, _, _, .hol _, h => by simp [T.pl] at h
  | _, _, _, .mrk _ _, h => by simp [T.pl] at h
theorem Reps.dp : ∀ {fp : List Addr} {vs : List V} {ts : List T}, Reps K H M fp vs ts → pls ts = true → DpAll K H vs (toDs ts)
  | _, _, _, .nil, _ => .nil
  | _, _, _, .cons r rs, h => by
    rw [pls, Bool.and_eq_true] at h
    exact .cons (r.dp h.1) (rs.dp h.2)
end
end
def int2 (f : Int → Int → Option T) : List T → Option T
  | [.int i, .int j] => f i j
  | _ => none
def fAddR : List T → Option T
  | [.int i, .int j] => some (.int (i + j))
  | [.str x, .str y] => if x.length + y.length ≤ sizeLine then some (.str (x ++ y)) else none
  | _ => none
def fSub : List T → Option T := int2 fun i j => some (.int (i - j))
def fMulR : List T → Option T := int2 fun i j => if (-(2 ^ 64) < i ∧ i < 2 ^ 64) ∨ (-(2 ^ 64) < j ∧ j < 2 ^ 64) then some (.int (i * j)) else none
def fDiv : List T → Option T := int2 fun i j => if 0 < j ∧ j < 1073741824 then some (.int (i / j)) else none
def fMod : List T → Option T := int2 fun i j => if 0 < j then some (.int (i % j)) else none
def fPow : List T → Option T := int2 fun i j => if 0 ≤ j ∧ j ≤ 1000000 ∧ i.natAbs < 2 ^ 64 then some (.int (i ^ j.toNat)) else none
def fNeg : List T → Option T
  | [.int i] => some (.int (-i))
  | _ => none
def fCmp (p : Int → Int → Bool) : List T → Option T := int2 fun i j => some (.bl (p i j))
abbrev fLt := fCmp fun i j => decide (i < j)
abbrev fLe := fCmp fun i j => decide (i ≤ j)
abbrev fGt := fCmp fun i j => decide (j < i)
abbrev fGe := fCmp fun i j => decide (j ≤ i)
def fEq : List T → Option T
  | [a, b] => if (a.eqOk && b.eqOk) = true then some (.bl (a.eqv b)) else none
  | _ => none
def fNe : List T → Option T
  | [a, b] => if (a.eqOk && b.eqOk) = true then some (.bl (!a.eqv b)) else none
  | _ => none
def T.isNon : T → Bool
  | .non => true
  | _ => false
def fIs : List T → Option T
  | [a, .non] => some (.bl a.isNon)
  | [.bl a, .bl b] => some (.bl (decide (a = b)))
  | _ => none
def jc4 : List T → Option T
  | [a, .non] => some (.bl (!a.isNon))
  | [.bl a, .bl b] => some (.bl (!decide (a = b)))
  | _ => none
def T.key : T → Option Key
  | .int i => some (.inl i)
  | .str x => some (.inr x)
  | _ => none
mutual
def T.beq : T → T → Bool
  | .non, y => (match y with | .non => true | _ => false)
  | .bl a, y => (match y with | .bl b => a == b | _ => false)
  | .int i, y => (match y with | .int j => i == j | _ => false)
  | .str x, y => (match y with | .str z => x == z | _ => false)
  | .tup xs, y => (match y with | .tup ys => beqs xs ys | _ => false)
  | _, _ => false
def beqs : List T → List T → Bool
  | [], ys => (match ys with | [] => true | _ => false)
  | x :: xs, ys => (match ys with | y :: ys => x.beq y && beqs xs ys | [] => false)
end
def T.leaf : T → Bool
  | .int _ => true
  | .str _ => true
  | _ => false
def T.tkey : T → Bool
  | .tup ks => ks.all T.leaf
  | _ => false
def keyOk (tk : Bool) (k : T) : Bool := if tk = true then k.tkey else k.leaf
def dGet : List T → List T → T → Option T
  | k :: ks, v :: vs, x => if k.beq x = true then some v else dGet ks vs x
  | _, _, _ => none
def fIn : List T → Option T
  | [.str a, .str b] => some (.bl (!(Builtin.Str.occurrences b a 0 b.length 1).isEmpty))
  | [a, .tup xs] => if (a.eqOk && (T.tup xs).eqOk) = true then some (.bl (xs.any fun y => y.eqv a)) else none
  | [a, .con xs] => if (a.eqOk && (T.tup xs).eqOk) = true then some (.bl (xs.any fun y => y.eqv a)) else none
  | [a, .lst o xs] => if (a.eqOk && (T.lst o xs).eqOk) = true then some (.bl (xs.any fun y => y.eqv a)) else none
  | [a, .dic _ tk ks vs] => if keyOk tk a = true then some (.bl (dGet ks vs a).isSome) else none
  | _ => none
def fNot (f : List T → Option T) : List T → Option T := fun ts => match f ts with
  | some (.bl b) => some (.bl (!b))
  | _ => none
abbrev jj2 := fNot fIn
def fLen : List T → Option T
  | [.str x] => if x.length ≤ sizeLine then some (.int x.length) else none
  | [.tup xs] => some (.int xs.length)
  | [.con xs] => some (.int xs.length)
  | [.lst _ xs] => some (.int xs.length)
  | [.dic _ _ ks _] => some (.int ks.length)
  | _ => none
def fIx : List T → Option T
  | [.str x, .int i] => if x.length ≤ sizeLine then (atI x.cps.toList i).map (fun c => .str ⟨#[c]⟩) else none
  | [.tup xs, .int i] => atI xs i
  | [.con xs, .int i] => atI xs i
  | [.lst _ xs, .int i] => atI xs i
  | [.dic _ tk ks vs, k] => if keyOk tk k = true then dGet ks vs k else none
  | _ => none
def fAbs : List T → Option T
  | [.int i] => some (.int (if i < 0 then -i else i))
  | _ => none
def fInt : List T → Option T
  | [.int i] => some (.int i)
  | [.bl b] => some (.int (if b then 1 else 0))
  | _ => none
def fMax2 : List T → Option T := int2 fun i j => some (.int (if j > i then j else i))
def fMin2 : List T → Option T := int2 fun i j => some (.int (if j < i then j else i))
def je6 : List T → Option (List Bool)
  | [] => some []
  | .bl b :: r => (je6 r).map (b :: ·)
  | _ => none
def jjd : List T → Option (List Str)
  | [] => some []
  | .str b :: r => (jjd r).map (b :: ·)
  | _ => none
def fAll : List T → Option T
  | [.lst _ xs] => (je6 xs).map fun bs => .bl (bs.all id)
  | _ => none
def fJoin : List T → Option T
  | [.str a, .lst _ xs] => match jjd xs with
    | some ys => if (ys.map (·.length)).sum + ys.length * a.length ≤ 16777216 then some (.str (Txt.join a ys)) else none
    | none => none
  | [.str a, .tup xs] => match jjd xs with
    | some ys => if (ys.map (·.length)).sum + ys.length * a.length ≤ 16777216 then some (.str (Txt.join a ys)) else none
    | none => none
  | _ => none
def jdu : List T → Option T
  | [.str a] => if a.length ≤ 5592405 then some (.str (Txt.upper a)) else none
  | _ => none
section
variable {K : PySem.W.Frag} {H : Hp} {M : MS} {vs : List V} {ts : List T}
theorem rb1 {a : T} (r : RB K H M vs [a]) : ∃ v fp, vs = [v] ∧ Rep K H M fp v a := by
  cases r with
  | cons r rs => cases rs; exact ⟨_, _, rfl, r⟩
theorem rb2 {a b : T} (r : RB K H M vs [a, b]) : ∃ v w fp fq, vs = [v, w] ∧ Rep K H M fp v a ∧ Rep K H M fq w b := by
  cases r with
  | cons r rs =>
    obtain ⟨w, fq, rfl, r2⟩ := rb1 rs
    exact ⟨_, _, _, _, rfl, r, r2⟩
theorem je7 {fp : List Addr} {v : V} {i : Int} (h : Rep K H M fp v (.int i)) : v = .int i ∧ fp = [] := by cases h; exact ⟨rfl, rfl⟩
theorem jdp {fp : List Addr} {v : V} {i : Str} (h : Rep K H M fp v (.str i)) : v = .str i ∧ fp = [] := by cases h; exact ⟨rfl, rfl⟩
theorem jj3 {f : Int → Int → Option T} {t : T} (h : int2 f ts = some t) : ∃ i j, ts = [.int i, .int j] ∧ f i j = some t := by
  unfold int2 at h
  split at h
  · exact ⟨_, _, rfl, h⟩
  · cases h
theorem jiu {i j : Int} (r : RB K H M vs [.int i, .int j]) : vs = [.int i, .int j] := by
  obtain ⟨v, w, fp, fq, rfl, r1, r2⟩ := rb2 r
  rw [(je7 r1).1, (je7 r2).1]
theorem o_int2 {C : Int → Int → Prop} {g : Int → Int → Int} {f : Int → Int → Option T} (hf : ∀ i j t, f i j = some t → C i j ∧ t = .int (g i j)) : ROp K (r2L (rI C fun i j => .int (g i j))) (int2 f) := fun H M vs ts t Q r e q => by
  obtain ⟨i, j, rfl, e⟩ := jj3 e
  obtain ⟨c, rfl⟩ := hf i j t e
  rw [jiu r]
  exact ⟨i, j, rfl, rfl, c, q _ [] (.int _)⟩
theorem o_sub : ROp K (r2L (rI0 fun i j => .int (i - j))) fSub := fun H M vs ts t Q r e q => by
  obtain ⟨i, j, rfl, e⟩ := jj3 e
  cases e
  rw [jiu r]
  exact ⟨i, j, rfl, rfl, q _ [] (.int _)⟩
theorem jie : ROp K (r2L (rI CMul fun i j => .int (i * j))) fMulR := o_int2 fun i j t h => by
  split at h
  · rename_i c; cases h; exact ⟨c, rfl⟩
  · cases h
theorem o_div : ROp K (r2L (rI CDiv fun i j => .int (i / j))) fDiv := o_int2 fun i j t h => by
  split at h
  · rename_i c; cases h; exact ⟨c, rfl⟩
  · cases h
theorem o_mod : ROp K (r2L (rI (fun _ j => 0 < j) fun i j => .int (i % j))) fMod := o_int2 fun i j t h => by
  split at h
  · rename_i c; cases h; exact ⟨c, rfl⟩
  · cases h
theorem o_pow : ROp K (r2L (rI CPow fun i j => .int (i ^ j.toNat))) fPow := o_int2 fun i j t h => by
  split at h
  · rename_i c; cases h; exact ⟨c, rfl⟩
  · cases h
theorem o_cmp {p : Int → Int → Bool} : ROp K (r2L (rI0 fun i j => .bl (p i j))) (fCmp p) := fun H M vs ts t Q r e q => by
  obtain ⟨i, j, rfl, e⟩ := jj3 e
  cases e
  rw [jiu r]
  exact ⟨i, j, rfl, rfl, q _ [] (.bl _)⟩
theorem o_neg : ROp K (fun vs H Q => match vs with | [x] => rU (fun i => .int (-i)) x H Q | _ => False) fNeg := fun H M vs ts t Q r e q => by
  unfold fNeg at e
  split at e
  · cases e
    obtain ⟨v, fp, rfl, r1⟩ := rb1 r
    exact ⟨_, (je7 r1).1, q _ [] (.int _)⟩
  · cases e
abbrev rAddR : R2 := fun x y H Q => rI0 (fun i j => .int (i + j)) x y H Q ∨ ∃ i j, x = .str i ∧ y = .str j ∧ i.length + j.length ≤ sizeLine ∧ Q (.str (i ++ j)) H
theorem op_addR {X : Cx} : OpR X (binaryOp .Add) rAddR := op_add.or op_add_str
theorem jdf : ROp K (r2L rAddR) fAddR := fun H M vs ts t Q r e q => by
  unfold fAddR at e
  split at e
  · cases e
    rw [jiu r]
    exact .inl ⟨_, _, rfl, rfl, q _ [] (.int _)⟩
  · split at e
    · rename_i c
      cases e
      obtain ⟨v, w, fp, fq, rfl, r1, r2⟩ := rb2 r
      rw [(jdp r1).1, (jdp r2).1]
      exact .inr ⟨_, _, rfl, rfl, c, q _ [] (.str _)⟩
    · cases e
  · cases e
abbrev rEqT (K : PySem.W.Frag) (neg : Bool) : R2 := fun x y H Q => ∃ a b : T, ∃ M fp fq, Rep K H M fp x a ∧ Rep K H M fq y b ∧ (a.eqOk && b.eqOk) = true ∧ Q (.bl (if neg = true then !a.eqv b else a.eqv b)) H
theorem je8 {a : T} (h : a.eqOk = true) : a.pl = true ∧ a.dep ≤ 60 := by
  unfold T.eqOk at h
  rw [Bool.and_eq_true, decide_eq_true_eq] at h
  exact h
theorem jfo {X : Cx} (hu : X.A.units + 64 < cLine) : OpR X (compareOp .Eq) (rEqT X.K false) := by
  intro pins s σ H x y v u Q I rx ry ⟨a, b, M, fp, fq, r1, r2, ok, q⟩
  rw [Bool.and_eq_true] at ok
  obtain ⟨pa, da⟩ := je8 ok.1
  obtain ⟨pb, db⟩ := je8 ok.2
  obtain ⟨as, h1⟩ := Dp.reads I _ x v (r1.dp pa) rx
  obtain ⟨bs, h2⟩ := Dp.reads I _ y u (r2.dp pb) ry
  refine SeqAt.eq_plain h1 h2 (jfc _) (jfc _) (by have := jej a; omega) ⟨.bl _, H, I, rfl, ?_⟩
  rw [jmi a b pa pb]
  exact q
theorem jkv {X : Cx} (hu : X.A.units + 64 < cLine) : OpR X (compareOp .NotEq) (rEqT X.K true) := by
  intro pins s σ H x y v u Q I rx ry ⟨a, b, M, fp, fq, r1, r2, ok, q⟩
  rw [Bool.and_eq_true] at ok
  obtain ⟨pa, da⟩ := je8 ok.1
  obtain ⟨pb, db⟩ := je8 ok.2
  obtain ⟨as, h1⟩ := Dp.reads I _ x v (r1.dp pa) rx
  obtain ⟨bs, h2⟩ := Dp.reads I _ y u (r2.dp pb) ry
  refine SeqAt.ne_plain h1 h2 (jfc _) (jfc _) (by have := jej a; omega) ⟨.bl _, H, I, rfl, ?_⟩
  rw [jmi a b pa pb]
  exact q
theorem o_eq : ROp K (r2L (rEqT K false)) fEq := fun H M vs ts t Q r e q => by
  unfold fEq at e
  split at e
  · split at e
    · rename_i c
      cases e
      obtain ⟨v, w, fp, fq, rfl, r1, r2⟩ := rb2 r
      exact ⟨_, _, M, fp, fq, r1, r2, c, q _ [] (.bl _)⟩
    · cases e
  · cases e
theorem o_ne : ROp K (r2L (rEqT K true)) fNe := fun H M vs ts t Q r e q => by
  unfold fNe at e
  split at e
  · split at e
    · rename_i c
      cases e
      obtain ⟨v, w, fp, fq, rfl, r1, r2⟩ := rb2 r
      exact ⟨_, _, M, fp, fq, r1, r2, c, q _ [] (.bl _)⟩
    · cases e
  · cases e
theorem rep_isNon {fp : List Addr} {v : V} {t : T} (h : Rep K H M fp v t) : decide (v = .non) = t.isNon := by cases h <;> simp [T.isNon]
abbrev rIsNot : R2 := fun x y H Q => (y = .non ∧ Q (.bl (!decide (x = .non))) H) ∨ ∃ a b, x = .bl a ∧ y = .bl b ∧ Q (.bl (!decide (a = b))) H
theorem jlo {X : Cx} : OpR X (compareOp .IsNot) rIsNot := op_notN.or op_isnot_bl
theorem rep_non {fp : List Addr} {v : V} (h : Rep K H M fp v .non) : v = .non := by cases h; rfl
theorem jnn : ROp K (r2L rIsNot) jc4 := fun H M vs ts t Q r e q => by
  unfold jc4 at e
  split at e
  · cases e
    obtain ⟨v, w, fp, fq, rfl, r1, r2⟩ := rb2 r
    exact .inl ⟨rep_non r2, by rw [rep_isNon r1]; exact q _ [] (.bl _)⟩
  · cases e
    obtain ⟨v, w, fp, fq, rfl, r1, r2⟩ := rb2 r
    exact .inr ⟨_, _, (jhb r1).1, (jhb r2).1, q _ [] (.bl _)⟩
  · cases e
end
end Q
namespace Q
open PySem PySem.Spec PyProof.Rows L2
variable [tbI : Tbl]
include tbI
section
variable {K : PySem.W.Frag} {H H1 : Hp} {M M1 : MS} {vs : List V} {ts : List T} {fv fp : List Addr}
theorem jmj {p : Addr} {o : HO} (h : H p = none) : Frm H M [] (upd H p o) M :=
  .of (fun _ z => nomatch z) (fun a u e _ => by rw [upd_ne (ne_of_none e h)]; exact e) (fun _ _ _ _ => Iff.rfl) (fun a u e => ⟨u, by rw [upd_ne (ne_of_none e h)]; exact e⟩)
theorem jj4 {p : Addr} {o : HO} (h : H p = none) : Frm H M [] (upd H p o) (fun a => M a ∨ a = p) :=
  .of (fun _ z => nomatch z) (fun a u e _ => by rw [upd_ne (ne_of_none e h)]; exact e) (fun a u e _ => ⟨fun z => z.resolve_right (ne_of_none e h), .inl⟩) (fun a u e => ⟨u, by rw [upd_ne (ne_of_none e h)]; exact e⟩)
theorem Frm.any {F : List Addr} {H' : Hp} {M' : MS} (f : Frm H M [] H' M') : Frm H M F H' M' := ⟨fun a o e _ nt => f.keep a o e (fun z => nomatch z) nt, fun a o e _ => f.own a o e (fun z => nomatch z), f.there, f.tabs⟩
theorem jm4 {p : Addr} (h : H p = none) (r : Reps K H M fv vs ts) : Rep K (upd H p (.tup vs)) M fv (.ref p) (.tup ts) ∧ Stp H M fv (upd H p (.tup vs)) M fv :=
  ⟨.tup upd_same (r.frm (jmj h) (fun _ z => nomatch z) (fun _ _ z => nomatch z)), ⟨(jmj h).any, fun a ha => .inl ha⟩⟩
theorem jkw {p : Addr} (h : H p = none) (r : Reps K H M fv vs ts) (n : fv.Nodup) : Rep K (upd H p (.lst vs)) (fun a => M a ∨ a = p) (p :: fv) (.ref p) (.lst true ts) ∧ (p :: fv).Nodup ∧ Stp H M fv (upd H p (.lst vs)) (fun a => M a ∨ a = p) (p :: fv) := by
  refine ⟨.lstO upd_same (.inr rfl) (r.frm (jj4 h) (fun _ z => nomatch z) (fun _ _ z => nomatch z)), List.nodup_cons.mpr ⟨fun z => ?_, n⟩, ⟨(jj4 h).any, fun a ha => ?_⟩⟩
  · obtain ⟨x, e⟩ := r.own.some_ z
    rw [h] at e; cases e
  · rcases List.mem_cons.mp ha with z | z
    · exact .inr (z ▸ h)
    · exact .inl z
theorem newDK {p : Addr} (h : H p = none) : Rep K (upd H p (.dK [])) (fun a => M a ∨ a = p) [p] (.ref p) (.dic true false [] []) ∧ Stp H M [] (upd H p (.dK [])) (fun a => M a ∨ a = p) [p] :=
  ⟨.dKO (kvs := []) upd_same (.inr rfl) .nil, ⟨jj4 h, fun a ha => .inr (by rw [List.mem_singleton.mp ha]; exact h)⟩⟩
theorem reps0 (r : Reps K H M fp vs ts) (h : frs ts = true) : Reps K H M [] vs ts := by
  have z := r.fpNil h
  subst z; exact r
theorem reps0' {v : V} {t : T} (r : Rep K H M fp v t) (h : t.fr = true) : Rep K H M [] v t := by
  have z := r.fpNil h
  subst z; exact r
theorem Reps.drop0 : ∀ {vs : List V} {ts : List T} (n : Nat), Reps K H M [] vs ts → frs ts = true → Reps K H M [] (vs.drop n) (ts.drop n)
  | vs, ts, 0, r, _ => r
  | vs, ts, n + 1, r, h => by
    generalize e : ([] : List Addr) = g at r
    cases r with
    | nil => simpa using Reps.nil
    | cons r rs =>
      rw [frs, Bool.and_eq_true] at h
      have := Reps.drop0 n (reps0 rs h.2) h.2
      rw [e] at this
      simpa using this
theorem Reps.take0 : ∀ {vs : List V} {ts : List T} (n : Nat), Reps K H M [] vs ts → frs ts = true → Reps K H M [] (vs.take n) (ts.take n)
  | vs, ts, 0, r, _ => by simpa using Reps.nil
  | vs, ts, n + 1, r, h => by
    generalize e : ([] : List Addr) = g at r
    cases r with
    | nil => simpa using Reps.nil
    | cons r rs =>
      rw [frs, Bool.and_eq_true] at h
      have := Reps.cons (reps0' r h.1) (Reps.take0 n (reps0 rs h.2) h.2)
      rw [← e]
      exact this
theorem frs_drop (n : Nat) : ∀ {ts : List T}, frs ts = true → frs (ts.drop n) = true := fun {ts} h => by
  rw [jjg] at h ⊢
  exact List.all_eq_true.mpr fun x hx => List.all_eq_true.mp h x (List.mem_of_mem_drop hx)
theorem Rep.keyV {v : V} {k : Key} (h : Rep K H M fp v (keyT k)) : v = kV k := by
  cases k <;> (cases h; rfl)
theorem jj5 (a b : Key) : (keyT a).beq (keyT b) = decide (a = b) := by
  cases a <;> cases b <;> simp [keyT, T.beq]
  all_goals (first | rfl | (rw [Bool.eq_iff_iff]; simp))
theorem jno {t : T} (h : t.leaf = true) : ∃ k, t = keyT k := by
  cases t with
  | int i => exact ⟨.inl i, rfl⟩
  | str x => exact ⟨.inr x, rfl⟩
  | _ => simp [T.leaf] at h
theorem jkx : ∀ {ts : List T}, ts.all T.leaf = true → ∃ ks : List Key, ts = ks.map keyT
  | [], _ => ⟨[], rfl⟩
  | t :: ts, h => by
    rw [List.all_cons, Bool.and_eq_true] at h
    obtain ⟨k, rfl⟩ := jno h.1
    obtain ⟨ks, rfl⟩ := jkx h.2
    exact ⟨k :: ks, rfl⟩
theorem jii : ∀ a b : List Key, beqs (a.map keyT) (b.map keyT) = decide (a = b)
  | [], [] => rfl
  | [], _ :: _ => rfl
  | _ :: _, [] => rfl
  | x :: xs, y :: ys => by
    rw [List.map_cons, List.map_cons, beqs, jj5, jii xs ys, ← Bool.decide_and]
    exact decide_eq_decide.mpr (by rw [List.cons.injEq])
theorem dGet_k {k : Key} : ∀ {kvs : List (Key × V)} {us : List T} {fp : List Addr}, Reps K H M fp (kvs.map Prod.snd) us → (∃ u fq, dGet (kvs.map fun kv => keyT kv.1) us (keyT k) = some u ∧ ∃ v, valV kvs k = some v ∧ Rep K H M fq v u) ∨ (dGet (kvs.map fun kv => keyT kv.1) us (keyT k) = none ∧ valV kvs k = none)
  | [], us, fp, r => .inr ⟨rfl, rfl⟩
  | (k', v) :: kvs, us, fp, r => by
    cases r with
    | @cons fp fq v u vs us r rs =>
      rw [List.map_cons, dGet, jj5]
      by_cases e : k' = k
      · rw [valV_pos (p := (k', v)) e, if_pos (by simpa using e)]
        exact .inl ⟨u, _, rfl, v, rfl, r⟩
      · rw [valV_neg (p := (k', v)) e, if_neg (by simpa using e)]
        exact dGet_k rs
theorem dGet_t {k : List Key} : ∀ {kvs : List (List Key × V)} {us : List T} {fp : List Addr}, Reps K H M fp (kvs.map Prod.snd) us → (∃ u fq, dGet (kvs.map fun kv => T.tup (kv.1.map keyT)) us (.tup (k.map keyT)) = some u ∧ ∃ v, valV kvs k = some v ∧ Rep K H M fq v u) ∨ (dGet (kvs.map fun kv => T.tup (kv.1.map keyT)) us (.tup (k.map keyT)) = none ∧ valV kvs k = none)
  | [], us, fp, r => .inr ⟨rfl, rfl⟩
  | (k', v) :: kvs, us, fp, r => by
    cases r with
    | @cons fp fq v u vs us r rs =>
      rw [List.map_cons, dGet, T.beq, jii]
      by_cases e : k' = k
      · rw [valV_pos (p := (k', v)) e, if_pos (by simpa using e)]
        exact .inl ⟨u, _, rfl, v, rfl, r⟩
      · rw [valV_neg (p := (k', v)) e, if_neg (by simpa using e)]
        exact dGet_t rs
theorem keysV : ∀ {vs : List V} {ks : List Key} {fp : List Addr}, Reps K H M fp vs (ks.map keyT) → vs = ks.map kV
  | vs, [], _, r => by cases r; rfl
  | vs, k :: ks, _, r => by
    cases r with
    | cons r rs => rw [List.map_cons, r.keyV, keysV rs]
def KeyAt (H : Hp) (tk : Bool) (k : T) (kv : V) : Prop := if tk = true then ∃ (kl : List Key) (b : Addr), k = .tup (kl.map keyT) ∧ kv = .ref b ∧ H b = some (.tup (kl.map kV)) else ∃ k', k = keyT k' ∧ kv = kV k'
theorem jhp {tk : Bool} {k : T} {kv : V} (rk : Rep K H M fp kv k) (h : keyOk tk k = true) : KeyAt H tk k kv := by
  unfold keyOk at h
  unfold KeyAt
  cases tk with
  | false =>
    rw [if_neg Bool.false_ne_true] at h ⊢
    obtain ⟨k', rfl⟩ := jno h
    exact ⟨k', rfl, rk.keyV⟩
  | true =>
    rw [if_pos rfl] at h ⊢
    cases k with
    | tup kk =>
      obtain ⟨kl, rfl⟩ := jkx (by simpa [T.tkey] using h)
      cases rk with
      | tup eb rr =>
        have := keysV rr
        subst this
        exact ⟨kl, _, rfl, rfl, eb⟩
    | _ => simp [T.tkey] at h
theorem dic_get {o tk : Bool} {ks us : List T} {k : T} {x kv : V} (rd : Rep K H M fp x (.dic o tk ks us)) (rk : KeyAt H tk k kv) :
    ∃ a, x = .ref a ∧ ((∃ u v fr, dGet ks us k = some u ∧ DGet H a kv (some v) ∧ Rep K H M fr v u) ∨ (dGet ks us k = none ∧ DGet H a kv none)) := by
  have fin_k : ∀ {a : Addr} {kvs : List (Key × V)} {fr : List Addr}, Rd H a (.dK kvs) → Reps K H M fr (kvs.map Prod.snd) us → KeyAt H false k kv →
      ((∃ u v fr, dGet (kvs.map fun kv => keyT kv.1) us k = some u ∧ DGet H a kv (some v) ∧ Rep K H M fr v u) ∨ (dGet (kvs.map fun kv => keyT kv.1) us k = none ∧ DGet H a kv none)) := fun {a kvs fr} e r rk => by
    obtain ⟨k', rfl, rfl⟩ : ∃ k', k = keyT k' ∧ kv = kV k' := by simpa [KeyAt] using rk
    rcases dGet_k (k := k') r with ⟨u, fs, g1, v, g2, g3⟩ | ⟨g1, g2⟩
    · exact .inl ⟨u, v, fs, g1, .inl ⟨kvs, k', e, rfl, g2.symm⟩, g3⟩
    · exact .inr ⟨g1, .inl ⟨kvs, k', e, rfl, g2.symm⟩⟩
  have fin_t : ∀ {a : Addr} {kvs : List (List Key × V)} {fr : List Addr}, H a = some (.dT kvs) → Reps K H M fr (kvs.map Prod.snd) us → KeyAt H true k kv →
      ((∃ u v fr, dGet (kvs.map fun kv => T.tup (kv.1.map keyT)) us k = some u ∧ DGet H a kv (some v) ∧ Rep K H M fr v u) ∨ (dGet (kvs.map fun kv => T.tup (kv.1.map keyT)) us k = none ∧ DGet H a kv none)) := fun {a kvs fr} e r rk => by
    obtain ⟨kl, b, rfl, rfl, eb⟩ : ∃ (kl : List Key) (b : Addr), k = .tup (kl.map keyT) ∧ kv = .ref b ∧ H b = some (.tup (kl.map kV)) := by simpa [KeyAt] using rk
    rcases dGet_t (k := kl) r with ⟨u, fs, g1, v, g2, g3⟩ | ⟨g1, g2⟩
    · exact .inl ⟨u, v, fs, g1, .inr ⟨kvs, kl, b, .inl e, rfl, eb, g2.symm⟩, g3⟩
    · exact .inr ⟨g1, .inr ⟨kvs, kl, b, .inl e, rfl, eb, g2.symm⟩⟩
  cases rd with
  | dKF e _ r => exact ⟨_, rfl, fin_k e r rk⟩
  | dKO e _ r => exact ⟨_, rfl, fin_k (.inl e) r rk⟩
  | dTF e _ r => exact ⟨_, rfl, fin_t e r rk⟩
  | dTO e _ r => exact ⟨_, rfl, fin_t e r rk⟩
end
section
variable {X : Cx} {K : PySem.W.Frag} {H H1 : Hp} {M M1 : MS} {vs : List V} {ts : List T} {fv fp : List Addr}
abbrev jnp (K : PySem.W.Frag) (neg : Bool) : R2 := fun x y H Q =>
  (∃ i j, x = .str i ∧ y = .str j ∧ Q (.bl (if neg = true then !(!(Builtin.Str.occurrences j i 0 j.length 1).isEmpty) else !(Builtin.Str.occurrences j i 0 j.length 1).isEmpty)) H) ∨
  (∃ (d : PyData) (ds : List PyData), Dp K H x d ∧ (Dp K H y (.list ds) ∨ Dp K H y (.tuple ds)) ∧ d.plain = true ∧ PyData.plainAll ds = true ∧ d.depth ≤ 60 ∧ Q (.bl (if neg = true then !ds.any fun z => PyData.eqv z d else ds.any fun z => PyData.eqv z d)) H) ∨
  ∃ a o, y = .ref a ∧ DGet H a x o ∧ Q (.bl (if neg = true then !o.isSome else o.isSome)) H
theorem jj6 (hu : X.A.units + 66 < cLine) : OpR X (compareOp .In) (jnp X.K false) := by
  intro pins s σ H x y v u Q I rx ry h
  rcases h with h | ⟨d, ds, h1, h2, p1, p2, hd, q⟩ | ⟨a, o, rfl, g, q⟩
  · exact op_in_str pins s σ H x y v u Q I rx ry h
  · obtain ⟨as, r1⟩ := Dp.reads I _ x v h1 rx
    rcases h2 with h2 | h2
    · obtain ⟨bs, r2⟩ := Dp.reads I _ y u h2 ry
      exact SeqAt.in_list_data r2 r1 p2 p1 (by omega) ⟨.bl _, H, I, rfl, q⟩
    · obtain ⟨bs, r2⟩ := Dp.reads I _ y u h2 ry
      exact SeqAt.in_tuple_data r2 r1 p2 p1 (by omega) ⟨.bl _, H, I, rfl, q⟩
  · cases ry
    exact d_in (by omega) I g rx fun s' I' => ⟨.bl _, H, I', rfl, q⟩
theorem jm5 (hu : X.A.units + 66 < cLine) : OpR X (compareOp .NotIn) (jnp X.K true) := by
  intro pins s σ H x y v u Q I rx ry h
  rcases h with h | ⟨d, ds, h1, h2, p1, p2, hd, q⟩ | ⟨a, o, rfl, g, q⟩
  · exact L2.op_notIn_str pins s σ H x y v u Q I rx ry h
  · obtain ⟨as, r1⟩ := Dp.reads I _ x v h1 rx
    rcases h2 with h2 | h2
    · obtain ⟨bs, r2⟩ := Dp.reads I _ y u h2 ry
      exact SeqAt.notIn_list_data r2 r1 p2 p1 (by omega) ⟨.bl _, H, I, rfl, q⟩
    · obtain ⟨bs, r2⟩ := Dp.reads I _ y u h2 ry
      exact SeqAt.notIn_tuple_data r2 r1 p2 p1 (by omega) ⟨.bl _, H, I, rfl, q⟩
  · cases ry
    exact d_notIn (by omega) I g rx fun s' I' => ⟨.bl _, H, I', rfl, q⟩
theorem jj7 {a : T} (ha : a.pl = true) : ∀ {xs : List T}, pls xs = true → ((toDs xs).any fun z => PyData.eqv z a.toD) = xs.any fun y => y.eqv a
  | [], _ => rfl
  | x :: xs, h => by
    rw [pls, Bool.and_eq_true] at h
    rw [toDs, List.any_cons, List.any_cons, jmi x a h.1 ha, jj7 ha h.2]
theorem dp_con {v : V} {xs : List T} (r : Rep K H M fp v (.con xs)) (h : pls xs = true) : Dp K H v (.tuple (toDs xs)) := by
  cases r with
  | con e rs => exact .tup e.sq (rs.dp h)
theorem o_inG (neg : Bool) {g : Bool → Bool} (hg : ∀ b, g b = if neg = true then !b else b) {f : List T → Option T} (hf : ∀ ts t, f ts = some t → ∃ b, fIn ts = some (.bl b) ∧ t = .bl (g b)) : ROp K (r2L (jnp K neg)) f := fun H M vs ts t Q r e9 q => by
  obtain ⟨b0, e, rfl⟩ := hf ts t e9
  clear e9
  have fin : ∀ b, b0 = b → Q (.bl (if neg = true then !b else b)) H := fun b hb => by
    rw [← hb, ← hg]
    exact q _ [] (.bl _)
  unfold fIn at e
  split at e
  · cases e
    obtain ⟨v, w, fp, fq, rfl, r1, r2⟩ := rb2 r
    exact .inl ⟨_, _, (jdp r1).1, (jdp r2).1, fin _ rfl⟩
  · split at e
    · rename_i c
      cases e
      rw [Bool.and_eq_true] at c
      obtain ⟨v, w, fp, fq, rfl, r1, r2⟩ := rb2 r
      obtain ⟨p1, d1⟩ := je8 c.1
      obtain ⟨p2, d2⟩ := je8 c.2
      refine .inr (.inl ⟨_, _, r1.dp p1, .inr (by have := r2.dp p2; rwa [T.toD] at this), jfc _, jfq _, Nat.le_trans (jej _) d1, fin _ ?_⟩)
      exact (jj7 p1 (by simpa [T.pl] using p2)).symm
    · cases e
  · split at e
    · rename_i c
      cases e
      rw [Bool.and_eq_true] at c
      obtain ⟨v, w, fp, fq, rfl, r1, r2⟩ := rb2 r
      obtain ⟨p1, d1⟩ := je8 c.1
      obtain ⟨p2, d2⟩ := je8 c.2
      refine .inr (.inl ⟨_, _, r1.dp p1, .inr (dp_con r2 (by simpa [T.pl] using p2)), jfc _, jfq _, Nat.le_trans (jej _) d1, fin _ ?_⟩)
      exact (jj7 p1 (by simpa [T.pl] using p2)).symm
    · cases e
  · split at e
    · rename_i c
      cases e
      rw [Bool.and_eq_true] at c
      obtain ⟨v, w, fp, fq, rfl, r1, r2⟩ := rb2 r
      obtain ⟨p1, d1⟩ := je8 c.1
      obtain ⟨p2, d2⟩ := je8 c.2
      refine .inr (.inl ⟨_, _, r1.dp p1, .inl (by have := r2.dp p2; rwa [T.toD] at this), jfc _, jfq _, Nat.le_trans (jej _) d1, fin _ ?_⟩)
      exact (jj7 p1 (by simpa [T.pl] using p2)).symm
    · cases e
  · split at e
    · rename_i c
      cases e
      obtain ⟨v, w, fp, fq, rfl, r1, r2⟩ := rb2 r
      obtain ⟨a, rfl, g⟩ := dic_get r2 (jhp r1 c)
      rcases g with ⟨u, x, fr, g1, g2, _⟩ | ⟨g1, g2⟩
      · exact .inr (.inr ⟨a, _, rfl, g2, fin _ (by rw [g1]; rfl)⟩)
      · exact .inr (.inr ⟨a, _, rfl, g2, fin _ (by rw [g1]; rfl)⟩)
    · cases e
  · cases e
theorem fIn_bl {ts : List T} {t : T} (h : fIn ts = some t) : ∃ b, t = .bl b := by
  unfold fIn at h
  split at h
  · cases h; exact ⟨_, rfl⟩
  all_goals first
    | (cases h; done)
    | (split at h <;> first | (cases h; exact ⟨_, rfl⟩) | cases h)
theorem o_in : ROp K (r2L (jnp K false)) fIn := o_inG false (g := fun b => b) (fun _ => rfl) fun ts t h => by
  obtain ⟨b, rfl⟩ := fIn_bl h
  exact ⟨b, h, rfl⟩
theorem o_notIn : ROp K (r2L (jnp K true)) jj2 := o_inG true (g := fun b => !b) (fun _ => rfl) fun ts t h => by
  unfold jj2 fNot at h
  split at h
  · rename_i b e; cases h; exact ⟨b, e, rfl⟩
  · cases h
end
section
variable {X : Cx} {K : PySem.W.Frag} {H H1 : Hp} {M M1 : MS} {vs : List V} {ts : List T} {fv fp : List Addr}
abbrev rLenAll (K : PySem.W.Frag) : RV := fun xs H Q => (∃ z, xs = [.str z] ∧ z.length ≤ sizeLine ∧ Q (.int z.length) H) ∨ (∃ p ys, xs = [.ref p] ∧ (SqL K H p ys ∨ SqT K H p ys) ∧ Q (.int ys.length) H) ∨ rLenT xs H Q ∨ ∃ p kvs, xs = [.ref p] ∧ Rd H p (.dK kvs) ∧ Q (.int kvs.length) H
theorem jnq : CallR X (.builtin "len") (fun xs H Q => ∃ p kvs, xs = [.ref p] ∧ Rd H p (.dK kvs) ∧ Q (.int kvs.length) H) := by
  intro pins s σ H xs us Q I r ⟨p, kvs, e, rd, q⟩
  subst e
  have e2 := r.ref1
  subst e2
  exact d_len I rd fun t s' I' => ⟨.int _, H, I', ⟨t, rfl⟩, q⟩
theorem jaw : CallR X (.builtin "len") (rLenAll X.K) := call_len_str.or (call_len_seq.or (call_len_dT.or jnq))
theorem o_len : ROp K (rLenAll K) fLen := fun H M vs ts t Q r e q => by
  unfold fLen at e
  split at e
  · split at e
    · rename_i c
      cases e
      obtain ⟨v, fp, rfl, r1⟩ := rb1 r
      rw [(jdp r1).1]
      exact .inl ⟨_, rfl, c, q _ [] (.int _)⟩
    · cases e
  · cases e
    obtain ⟨v, fp, rfl, r1⟩ := rb1 r
    cases r1 with
    | tup h rs => exact .inr (.inl ⟨_, _, rfl, .inr (.of h), by rw [rs.length]; exact q _ [] (.int _)⟩)
  · cases e
    obtain ⟨v, fp, rfl, r1⟩ := rb1 r
    cases r1 with
    | con h rs => exact .inr (.inl ⟨_, _, rfl, .inr h.sq, by rw [rs.length]; exact q _ [] (.int _)⟩)
  · cases e
    obtain ⟨v, fp, rfl, r1⟩ := rb1 r
    cases r1 with
    | lstF h _ rs => exact .inr (.inl ⟨_, _, rfl, .inl (.inl h), by rw [rs.length]; exact q _ [] (.int _)⟩)
    | lstK h rs => exact .inr (.inl ⟨_, _, rfl, .inl (.inr h), by rw [rs.length]; exact q _ [] (.int _)⟩)
    | lstO h _ rs => exact .inr (.inl ⟨_, _, rfl, .inl (.of h), by rw [rs.length]; exact q _ [] (.int _)⟩)
  · cases e
    obtain ⟨v, fp, rfl, r1⟩ := rb1 r
    cases r1 with
    | dKF h _ rs => exact .inr (.inr (.inr ⟨_, _, rfl, h, by have := q (.int _) [] (.int _); rwa [List.length_map] at this⟩))
    | dKO h _ rs => exact .inr (.inr (.inr ⟨_, _, rfl, .inl h, by have := q (.int _) [] (.int _); rwa [List.length_map] at this⟩))
    | dTF h _ rs => exact .inr (.inr (.inl ⟨_, _, rfl, h, by have := q (.int _) [] (.int _); rwa [List.length_map] at this⟩))
    | dTO h _ rs => exact .inr (.inr (.inl ⟨_, _, rfl, h, by have := q (.int _) [] (.int _); rwa [List.length_map] at this⟩))
  · cases e
abbrev rIxD : R2 := fun x y H Q => ∃ a v, x = .ref a ∧ DGet H a y (some v) ∧ Q v H
abbrev rIxAll (K : PySem.W.Frag) : R2 := fun x y H Q => rIx K x y H Q ∨ rIxD x y H Q
theorem ix_dict (hu : X.A.units + 1 < cLine) : IxR X rIxD := by
  intro value slice pins s σ H x y v u Q I rx ry ⟨a, w, ex, g, q⟩ hs
  subst ex
  obtain rfl : v = Value.ref a := rx
  exact tail_any (ops := [.ref a, u]) (dict_typeIs I g) PySem.F.slot_dict_getitem.lookup (d_getItem hu I g ry fun w' s' I' rw' => ⟨w, H, I', rw', q⟩) hs
theorem jb2 (hu : X.A.units + 1 < cLine) : IxR X (rIxAll X.K) := ix_seq.or (ix_dict hu)
theorem jiv {xs : List T} {i : Int} {t : T} (r : Reps K H M fp vs xs) (h : atI xs i = some t) : ∃ v fq, atI vs i = some v ∧ Rep K H M fq v t := by
  unfold atI at h ⊢
  rw [r.length]
  cases e : ixN xs.length i with
  | none => rw [e] at h; cases h
  | some j =>
    rw [e] at h
    obtain ⟨v, fq, h1, h2, _⟩ := r.get (show xs[j]? = some t from h)
    exact ⟨v, fq, h1, h2⟩
theorem o_ix : ROp K (r2L (rIxAll K)) fIx := fun H M vs ts t Q r e q => by
  unfold fIx at e
  split at e
  · split at e
    · rename_i z i c
      obtain ⟨v, w, fp, fq, rfl, r1, r2⟩ := rb2 r
      obtain ⟨x, e1, e2⟩ := Option.map_eq_some_iff.mp e
      subst e2
      rw [(jdp r1).1, (je7 r2).1]
      exact .inl (.inr (.inr ⟨_, _, x, rfl, rfl, c, e1, q _ [] (.str _)⟩))
    · cases e
  · obtain ⟨v, w, fp, fq, rfl, r1, r2⟩ := rb2 r
    rw [(je7 r2).1]
    cases r1 with
    | tup h rs =>
      obtain ⟨v, fr, g1, g2⟩ := jiv rs e
      exact .inl (.inr (.inl ⟨_, _, _, v, rfl, rfl, .of h, g1, q v fr g2⟩))
  · obtain ⟨v, w, fp, fq, rfl, r1, r2⟩ := rb2 r
    rw [(je7 r2).1]
    cases r1 with
    | con h rs =>
      obtain ⟨v, fr, g1, g2⟩ := jiv rs e
      exact .inl (.inr (.inl ⟨_, _, _, v, rfl, rfl, h.sq, g1, q v fr g2⟩))
  · obtain ⟨v, w, fp, fq, rfl, r1, r2⟩ := rb2 r
    rw [(je7 r2).1]
    cases r1 with
    | lstF h _ rs =>
      obtain ⟨v, fr, g1, g2⟩ := jiv rs e
      exact .inl (.inl ⟨_, _, _, v, rfl, rfl, .inl h, g1, q v fr g2⟩)
    | lstK h rs =>
      obtain ⟨v, fr, g1, g2⟩ := jiv rs e
      exact .inl (.inl ⟨_, _, _, v, rfl, rfl, .inr h, g1, q v fr g2⟩)
    | lstO h _ rs =>
      obtain ⟨v, fr, g1, g2⟩ := jiv rs e
      exact .inl (.inl ⟨_, _, _, v, rfl, rfl, .of h, g1, q v fr g2⟩)
  · split at e
    · rename_i c
      obtain ⟨v, w, fp, fq, rfl, r1, r2⟩ := rb2 r
      obtain ⟨a, rfl, g⟩ := dic_get r1 (jhp r2 c)
      rcases g with ⟨u, x, fr, g1, g2, g3⟩ | ⟨g1, g2⟩
      · rw [e] at g1; cases g1
        exact .inr ⟨a, x, rfl, g2, q x fr g3⟩
      · rw [e] at g1; cases g1
    · cases e
  · cases e
theorem o_abs : ROp K (fun xs H Q => ∃ i, xs = [.int i] ∧ Q (.int (if i < 0 then -i else i)) H) fAbs := fun H M vs ts t Q r e q => by
  unfold fAbs at e
  split at e
  · cases e
    obtain ⟨v, fp, rfl, r1⟩ := rb1 r
    rw [(je7 r1).1]
    exact ⟨_, rfl, q _ [] (.int _)⟩
  · cases e
theorem o_int : ROp K (fun xs H Q => (∃ i, xs = [.int i] ∧ Q (.int i) H) ∨ ∃ k, xs = [.bl k] ∧ Q (.int (if k then 1 else 0)) H) fInt := fun H M vs ts t Q r e q => by
  unfold fInt at e
  split at e
  · cases e
    obtain ⟨v, fp, rfl, r1⟩ := rb1 r
    rw [(je7 r1).1]
    exact .inl ⟨_, rfl, q _ [] (.int _)⟩
  · cases e
    obtain ⟨v, fp, rfl, r1⟩ := rb1 r
    rw [(jhb r1).1]
    exact .inr ⟨_, rfl, q _ [] (.int _)⟩
  · cases e
theorem jky : ∀ {vs : List V} {xs : List T} {bs : List Bool} {fp : List Addr}, Reps K H M fp vs xs → je6 xs = some bs → vs = bs.map V.bl
  | _, [], bs, _, r, h => by cases r; cases h; rfl
  | vs, x :: xs, bs, _, r, h => by
    cases r with
    | cons r rs =>
      unfold je6 at h
      split at h
      · cases ‹_ :: _ = []›
      · rename_i e
        cases e
        obtain ⟨cs, h1, rfl⟩ := Option.map_eq_some_iff.mp h
        rw [(jhb r).1, jky rs h1]; rfl
      · cases h
theorem jhq : ∀ {vs : List V} {xs : List T} {bs : List Str} {fp : List Addr}, Reps K H M fp vs xs → jjd xs = some bs → vs = bs.map V.str
  | _, [], bs, _, r, h => by cases r; cases h; rfl
  | vs, x :: xs, bs, _, r, h => by
    cases r with
    | cons r rs =>
      unfold jjd at h
      split at h
      · cases ‹_ :: _ = []›
      · rename_i e
        cases e
        obtain ⟨cs, h1, rfl⟩ := Option.map_eq_some_iff.mp h
        rw [(jdp r).1, jhq rs h1]; rfl
      · cases h
theorem jfp {v : V} {o : Bool} {xs : List T} (r : Rep K H M fp v (.lst o xs)) : ∃ a ys fq, v = .ref a ∧ SqL K H a ys ∧ Reps K H M fq ys xs := by
  cases r with
  | lstF h _ rs => exact ⟨_, _, _, rfl, .inl h, rs⟩
  | lstK h rs => exact ⟨_, _, _, rfl, .inr h, rs⟩
  | lstO h _ rs => exact ⟨_, _, _, rfl, .of h, rs⟩
theorem o_all : ROp K (rAll K) fAll := fun H M vs ts t Q r e q => by
  unfold fAll at e
  split at e
  · obtain ⟨bs, e1, rfl⟩ := Option.map_eq_some_iff.mp e
    obtain ⟨v, fp, rfl, r1⟩ := rb1 r
    obtain ⟨a, ys, fq, rfl, h, rs⟩ := jfp r1
    rw [jky rs e1] at h
    exact ⟨a, bs, rfl, h, q _ [] (.bl _)⟩
  · cases e
abbrev rM1 (r : V → List V → Hp → VK → Prop) : RV := fun vs H Q => match vs with | [x, y] => (∃ a, x = .str a) ∧ r x [y] H Q | _ => False
abbrev rJoin (K : PySem.W.Frag) : V → List V → Hp → VK → Prop := fun x xs H Q => ∃ a p, ∃ ys : List Str, x = .str a ∧ xs = [.ref p] ∧ (SqL K H p (ys.map V.str) ∨ SqT K H p (ys.map V.str)) ∧
    (ys.map (·.length)).sum + ys.length * a.length ≤ 16777216 ∧ Q (.str (Txt.join a ys)) H
theorem o_join : ROp K (rM1 (rJoin K)) fJoin := fun H M vs ts t Q r e q => by
  unfold fJoin at e
  split at e
  · split at e
    · rename_i ys e1
      split at e
      · rename_i c
        cases e
        obtain ⟨v, w, fp, fq, rfl, r1, r2⟩ := rb2 r
        obtain ⟨a, zs, fr, rfl, h, rs⟩ := jfp r2
        rw [jhq rs e1] at h
        exact ⟨⟨_, (jdp r1).1⟩, _, a, ys, (jdp r1).1, rfl, .inl h, c, q _ [] (.str _)⟩
      · cases e
    · cases e
  · split at e
    · rename_i ys e1
      split at e
      · rename_i c
        cases e
        obtain ⟨v, w, fp, fq, rfl, r1, r2⟩ := rb2 r
        cases r2 with
        | tup h rs =>
          rw [jhq rs e1] at h
          exact ⟨⟨_, (jdp r1).1⟩, _, _, ys, (jdp r1).1, rfl, .inr (.of h), c, q _ [] (.str _)⟩
      · cases e
    · cases e
  · cases e
end
end Q
namespace Q
open PySem PySem.Spec PyProof.Rows L2
variable [tbI : Tbl]
include tbI
def cutT (xs : List T) (lo hi : Option Int) : List T := (xs.drop (HT.sIx xs.length 0 lo)).take (HT.sIx xs.length xs.length hi - HT.sIx xs.length 0 lo)
def fCut (t : T) (lo hi : Option Int) : Option T := match t with
  | .str z => if z.length ≤ sizeLine then some (.str (Txt.slice z lo hi)) else none
  | .tup xs => if frs xs = true then some (.tup (cutT xs lo hi)) else none
  | .con xs => if frs xs = true then (if HT.sIx xs.length 0 lo = 0 ∧ HT.sIx xs.length xs.length hi = xs.length then some (.con xs) else some (.tup (cutT xs lo hi))) else none
  | .lst _ xs => if frs xs = true then some (.lst true (cutT xs lo hi)) else none
  | _ => none
def bndOf : Option Dr → Env → Option (Option Int)
  | none, _ => some none
  | some r, ρ => match r ρ with | some (.int i) => some (some i) | _ => none
def fList : List T → Option T
  | [.tup xs] => if frs xs = true then some (.lst true xs) else none
  | [.lst _ xs] => if frs xs = true then some (.lst true xs) else none
  | _ => none
def fTuple : List T → Option T
  | [.tup xs] => if frs xs = true then some (.tup xs) else none
  | [.lst _ xs] => if frs xs = true then some (.tup xs) else none
  | _ => none
def fCat : List T → Option T
  | [.lst _ xs, .lst _ ys] => if (frs xs && frs ys && decide (xs.length + ys.length ≤ sizeLine)) = true then some (.lst true (xs ++ ys)) else none
  | [.tup xs, .tup ys] => if (frs xs && frs ys && decide (xs.length + ys.length ≤ sizeLine)) = true then some (.tup (xs ++ ys)) else none
  | [.int i, .int j] => some (.int (i + j))
  | [.str x, .str y] => if x.length + y.length ≤ sizeLine then some (.str (x ++ y)) else none
  | _ => none
section
variable {X : Cx} {pv : Pins} {W : WX} {e a b o : Expr} {es : List Expr} {pos apos : Pos} {d da db : De} {r s : Dr} {ds : Da}
variable {K : PySem.W.Frag} {mg : Str → Option Value} {H H1 H2 : Hp} {M M1 M2 : MS} {F F1 F2 G fv fp : List Addr} {σ : Sg} {ρ ρ1 : Env} {vs : List V} {ts : List T}
theorem fin2' {rr : R2} {A : V → Prop} {f : List T → Option T} {Q : VK} (o : VOp X.K (r2L fun x y H Q => A x ∧ rr x y H Q) f) (hA : ∀ H M fp v t us u, Rep X.K H M fp v t → f (t :: us) = some u → A v) (S : Sta X.K pv H M F σ ρ) (q : VQ X.K X.mg pv σ H M F W Q (vOp2 f da db ρ)) (hex : ∀ t ρ1, da ρ = .ok (t, ρ1) → ∀ x ρ2, db ρ1 ≠ .ex x ρ2) :
    TEd X pv W da σ H fun v H1 => A v ∧ TEd X pv W db σ H1 fun w H2 => rr v w H2 Q := by
  have z := fin2 (rr := fun x y H Q => A x ∧ rr x y H Q) o S q
  obtain ⟨M0, F0, ρ0, S0, z⟩ := z
  refine ⟨M, F, ρ, S, ?_⟩
  have q0 := q
  unfold vOp2 vOp dCons dNil at q
  cases e : da ρ with
  | bad => rw [e] at q; exact q
  | ex x ρ' => rw [e] at q; exact q
  | ok a =>
    obtain ⟨t, ρ1⟩ := a
    rw [e] at q
    intro v H' M' fv F' h1 h2 h3 h4
    simp only [R.bind] at q
    cases e2 : db ρ1 with
    | bad => rw [e2] at q; exact q.elim
    | ex x ρ2 => exact absurd e2 (hex t ρ1 e x ρ2)
    | ok b =>
      rw [e2] at q
      simp only at q
      cases e3 : f [t, b.1] with
      | none => rw [e3] at q; exact q.elim
      | some u =>
        refine ⟨hA H' M' fv v t [b.1] u h1 e3, ?_⟩
        have q1 : VQ X.K X.mg pv σ H M F W Q ((db ρ1).bind fun b => (match f [t, b.1] with | some t => .ok (t, b.2) | none => .bad : R (T × Env))) := by rw [e2]; exact q
        refine (stepE (k := fun t1 ρ2 => (match f [t, t1] with | some t => .ok (t, ρ2) | none => .bad : R (T × Env))) (P := VQ X.K X.mg pv σ H M F W Q) (Reps.one h1) h2 h3 h4 exQ id q1).mono fun w H2 ⟨t1, ρ2, M2, fv2, F2, a1, a2, a3, a4, a5⟩ => ?_
        exact (finQ o a1 a2 a3 a4 a5).2
def noEx (d : De) : De := fun ρ => match d ρ with | .ex _ _ => .bad | x => x
theorem noEx_ne {d : De} {ρ : Env} {x : Ex} {ρ2 : Env} : noEx d ρ ≠ .ex x ρ2 := by
  unfold noEx
  split
  · exact fun z => nomatch z
  · rename_i h; exact fun z => h _ _ z
theorem l_noEx (h : LE X pv W e d) : LE X pv W e (noEx d) := weakE h fun σ H Q ⟨M, F, ρ, S, q⟩ => ⟨M, F, ρ, S, by
  unfold noEx at q
  split at q
  · exact q.elim
  · exact q⟩
theorem l_m1 {id : String} {name : Str} {rr : V → List V → Hp → VK → Prop} {f : List T → Option T} (slot : Slot "str" name id) (ty : typeOf (.builtin id) = pure (.type "method_descriptor")) (rule : MtR X id rr) (ok : VOp X.K (rM1 rr) f) (hf : ∀ t us u, f (t :: us) = some u → ∃ z, t = .str z) (ho : LE X pv W o da) (ha : LE X pv W a db)
    (hs : starEach [a] X.env = [(false, eval a X.env)] := by rfl) (hbase : attributeBase o name X.env (eval o X.env) = eval o X.env := by rfl) (hline : (apos.endLine == pos.line) = true := by rfl) : LE X pv W (.Call (.Attribute o name apos) [a] [] pos) (vOp2 f da (noEx db)) :=
  weakE (pe_m1 slot ty rule ho (l_noEx ha) hs hbase hline) fun σ H Q ⟨M, F, ρ, S, q⟩ => fin2' (rr := fun x y H Q => rr x [y] H Q) (A := fun x => ∃ a, x = .str a) ok (fun H M fp v t us u r e => by
    obtain ⟨z, rfl⟩ := hf t us u e
    exact ⟨z, (jdp r).1⟩) S q fun t ρ1 _ x ρ2 => noEx_ne
theorem jj8 (r : Reps K H M [] vs ts) (h : frs ts = true) (lo hi : Option Int) : Reps K H M [] (cutV vs lo hi) (cutT ts lo hi) := by
  unfold cutV cutT
  rw [r.length]
  exact (r.drop0 _ h).take0 _ (frs_drop _ h)
abbrev rSlAll (K : PySem.W.Frag) : V → Option Int → Option Int → Hp → VK → Prop := fun x lo hi H Q => C8.rSlX x lo hi H Q ∨ rSlL K x lo hi H Q ∨ rSlA K x lo hi H Q
theorem sl_all : SlR X (rSlAll X.K) := C8.sl_txt.or (sl_list.or sl_tupA)
theorem cut_ok {v : V} {t u : T} {lo hi : Option Int} {Q : VK} (r : Rep K H M fp v t) (e : fCut t lo hi = some u) (q : ∀ v H' M' fv, Rep K H' M' fv v u → fv.Nodup → Stp H M [] H' M' fv → Q v H') : rSlAll K v lo hi H Q := by
  unfold fCut at e
  split at e
  · split at e
    · rename_i c
      cases e
      exact .inl ⟨_, (jdp r).1, c, q _ H M [] (.str _) .nil .refl⟩
    · cases e
  · split at e
    · rename_i xs c
      cases e
      cases r with
      | @tup a ws _ _ h rs =>
        have rs := reps0 rs c
        refine .inr (.inr ⟨_, _, rfl, .of h, fun hw => ?_, fun hw p hp => ?_⟩)
        · have : cutT xs lo hi = xs := by
            unfold cutT
            rw [← rs.length, hw.1, hw.2, List.drop_zero, Nat.sub_zero, rs.length, List.take_length]
          rw [this] at q
          exact q _ H M [] (.tup h rs) .nil .refl
        · obtain ⟨g1, g2⟩ := jm4 (M := M) hp (jj8 rs c lo hi)
          exact q _ _ M [] g1 .nil g2
    · cases e
  · split at e
    · rename_i xs c
      cases r with
      | @con a ws _ _ h rs =>
        have rs := reps0 rs c
        have ll := rs.length
        split at e
        · rename_i hw
          cases e
          refine .inr (.inr ⟨_, _, rfl, h.sq, fun _ => q _ H M [] (.con h rs) .nil .refl, fun hn => ?_⟩)
          rw [ll] at hn
          exact absurd hw hn
        · rename_i hw
          cases e
          refine .inr (.inr ⟨_, _, rfl, h.sq, fun hn => ?_, fun _ p hp => ?_⟩)
          · rw [ll] at hn
            exact absurd hn hw
          · obtain ⟨g1, g2⟩ := jm4 (M := M) hp (jj8 rs c lo hi)
            exact q _ _ M [] g1 .nil g2
    · cases e
  · split at e
    · rename_i o xs c
      cases e
      obtain ⟨a, ys, fq, rfl, h, rs⟩ := jfp r
      have rs := reps0 rs c
      refine .inr (.inl ⟨_, _, rfl, h, fun p hp => ?_⟩)
      obtain ⟨g1, g2, g3⟩ := jkw (M := M) hp (jj8 rs c lo hi) .nil
      exact q _ _ _ _ g1 g2 g3
    · cases e
  · cases e
structure RO (X : Cx) (pv : Pins) (e : Option Expr) (r : Option Dr) : Prop where
  run : PO X e (fun σ H Q => ∃ M F ρ, Sta X.K pv H M F σ ρ ∧ ∃ l, bndOf r ρ = some l ∧ Q l H)
theorem jgi : RO X pv none none := ⟨⟨fun pins s σ H Q I ⟨M, F, ρ, S, l, e, q⟩ => po_none.run pins s σ H Q I (by cases e; exact q)⟩⟩
theorem jdq (h : RE X pv e r) : RO X pv (some e) (some r) := ⟨⟨fun pins s σ H Q I ⟨M, F, ρ, S, l, e1, q⟩ => (po_some h).run pins s σ H Q I (by
  unfold bndOf at e1
  simp only at e1
  split at e1
  · rename_i i e2
    cases e1
    exact ⟨M, F, ρ, S, _, e2, fun v fv r1 => ⟨i, (je7 r1).1, q⟩⟩
  · cases e1)⟩⟩
def jbm (r : Dr) (lo hi : Option Dr) : De := fun ρ => match r ρ, bndOf lo ρ, bndOf hi ρ with
  | some t, some l, some h => (match fCut t l h with | some u => .ok (u, ρ) | none => .bad)
  | _, _, _ => .bad
def jdj (d : De) (lo hi : Option Dr) : De := fun ρ => (d ρ).bind fun x => match bndOf lo x.2, bndOf hi x.2 with
  | some l, some h => (match fCut x.1 l h with | some u => .ok (u, x.2) | none => .bad)
  | _, _ => .bad
theorem finR {u : T} {Q : VK} (S : Sta X.K pv H M F σ ρ) (q : VQ X.K X.mg pv σ H M F W Q (.ok (u, ρ))) : ∀ v H' M' fv, Rep X.K H' M' fv v u → fv.Nodup → Stp H M [] H' M' fv → Q v H' := fun v H' M' fv r1 n1 s1 => by
  have dj : ∀ a ∈ fv, a ∉ F := fun a h h' => by
    rcases s1.new a h with z | z
    · exact nomatch z
    · obtain ⟨x, e⟩ := S.rep.own.some_ h'
      rw [e] at z; cases z
  refine q v H' M' fv F r1 ⟨S.rep.frm s1.frm (fun _ z => nomatch z) (fun _ _ z => nomatch z), S.nd, S.pin⟩ (List.nodup_append.mpr ⟨n1, S.nd, fun a ha b hb e => dj a ha (e ▸ hb)⟩) ⟨s1.frm.any, fun a ha => ?_⟩
  rcases List.mem_append.mp ha with h | h
  · exact (s1.new a h).imp (fun z => nomatch z) id
  · exact .inl h
theorem jew {lo hi : Option Expr} {rl rh : Option Dr} {p2 : Pos} (he : RE X pv e r) (hl : RO X pv lo rl) (hh : RO X pv hi rh) : LE X pv W (.Subscript e (.Slice lo hi none p2) pos) (jbm r rl rh) :=
  weakE (pe_slice sl_all he hl.run hh.run) fun σ H Q ⟨M, F, ρ, S, q⟩ => by
    unfold jbm at q
    split at q
    · rename_i t l h e1 e2 e3
      split at q
      · rename_i u e4
        exact ⟨M, F, ρ, S, t, e1, fun v fv r1 => ⟨M, F, ρ, S, l, e2, M, F, ρ, S, h, e3, cut_ok r1 e4 (finR S q)⟩⟩
      · exact q.elim
    · exact q.elim
theorem o_list : BOp K (fun xs H Q => ∃ p ys, xs = [.ref p] ∧ (SqL K H p ys ∨ SqT K H p ys) ∧ ∀ l, H l = none → Q (.ref l) (upd H l (.lst ys))) fList := fun H M vs ts t Q r e q => by
  unfold fList at e
  split at e
  · split at e
    · rename_i c
      cases e
      obtain ⟨v, fp, rfl, r1⟩ := rb1 r
      cases r1 with
      | tup h rs =>
        refine ⟨_, _, rfl, .inr (.of h), fun p hp => ?_⟩
        obtain ⟨g1, g2, g3⟩ := jkw (M := M) hp (reps0 rs c) .nil
        exact q _ _ _ _ g1 g2 g3
    · cases e
  · split at e
    · rename_i c
      cases e
      obtain ⟨v, fp, rfl, r1⟩ := rb1 r
      obtain ⟨a, ys, fq, rfl, h, rs⟩ := jfp r1
      refine ⟨_, _, rfl, .inl h, fun p hp => ?_⟩
      obtain ⟨g1, g2, g3⟩ := jkw (M := M) hp (reps0 rs c) .nil
      exact q _ _ _ _ g1 g2 g3
    · cases e
  · cases e
theorem o_tuple : BOp K (fun xs H Q => ∃ p ys, xs = [.ref p] ∧ ((SqL K H p ys ∧ ∀ l, H l = none → Q (.ref l) (upd H l (.tup ys))) ∨ (SqT K H p ys ∧ Q (.ref p) H))) fTuple := fun H M vs ts t Q r e q => by
  unfold fTuple at e
  split at e
  · split at e
    · rename_i c
      cases e
      obtain ⟨v, fp, rfl, r1⟩ := rb1 r
      cases r1 with
      | tup h rs => exact ⟨_, _, rfl, .inr ⟨.of h, q _ H M [] (.tup h (reps0 rs c)) .nil .refl⟩⟩
    · cases e
  · split at e
    · rename_i c
      cases e
      obtain ⟨v, fp, rfl, r1⟩ := rb1 r
      obtain ⟨a, ys, fq, rfl, h, rs⟩ := jfp r1
      refine ⟨_, _, rfl, .inl ⟨h, fun p hp => ?_⟩⟩
      obtain ⟨g1, g2⟩ := jm4 (M := M) hp (reps0 rs c)
      exact q _ _ _ _ g1 .nil g2
    · cases e
  · cases e
abbrev rCatL (K : PySem.W.Frag) : R2 := fun x y H Q => ∃ l b xs zs, x = .ref l ∧ y = .ref b ∧ SqL K H l xs ∧ SqL K H b zs ∧ xs.length + zs.length ≤ sizeLine ∧ ∀ p, H p = none → Q (.ref p) (upd H p (.lst (xs ++ zs)))
end
end Q
namespace Q
open PySem PySem.Spec PyProof.Rows L2
variable [tbI : Tbl]
include tbI
section
variable {X : Cx} {pv : Pins} {W : WX} {e a b o : Expr} {es : List Expr} {pos apos : Pos} {d da db : De} {r s : Dr} {ds : Da}
variable {K : PySem.W.Frag} {mg : Str → Option Value} {H H1 H2 : Hp} {M M1 M2 : MS} {F F1 F2 G fv fp : List Addr} {σ : Sg} {ρ ρ1 : Env} {vs : List V} {ts : List T}
def fTup : List T → Option T := fun ts => if ts.length ≤ 4000 then some (.tup ts) else none
def fLst : List T → Option T := fun ts => if ts.length ≤ 4000 then some (.lst true ts) else none
theorem jgd {n : Nat} (h : n ≤ 4000) : n ≤ sizeLine := Nat.le_trans h (by decide)
theorem l_tup {x1} (ha : LA X pv W es ds) : LE X pv W (.Tuple es x1 pos) (vOp fTup ds) :=
  weakE (pe_tup ha) fun σ H Q ⟨M, F, ρ, S, q⟩ => finA (rr := fun xs H1 Q => xs.length ≤ sizeLine ∧ ∀ p, H1 p = none → Q (.ref p) (upd H1 p (.tup xs))) (fun H M fw vs ts t Q r n e q => by
    unfold fTup at e
    split at e
    · rename_i c
      cases e
      refine ⟨by rw [r.length]; exact jgd c, fun p hp => ?_⟩
      obtain ⟨g1, g2⟩ := jm4 (M := M) hp r
      exact q _ _ _ _ g1 n g2
    · cases e) S q
theorem l_lst (ha : LA X pv W es ds) : LE X pv W (.List es pos) (vOp fLst ds) :=
  weakE (pe_lst ha) fun σ H Q ⟨M, F, ρ, S, q⟩ => finA (rr := fun xs H1 Q => xs.length ≤ sizeLine ∧ ∀ p, H1 p = none → Q (.ref p) (upd H1 p (.lst xs))) (fun H M fw vs ts t Q r n e q => by
    unfold fLst at e
    split at e
    · rename_i c
      cases e
      refine ⟨by rw [r.length]; exact jgd c, fun p hp => ?_⟩
      obtain ⟨g1, g2, g3⟩ := jkw (M := M) hp r n
      exact q _ _ _ _ g1 g2 g3
    · cases e) S q
def dNewD (tk : Bool) : De := fun ρ => .ok (.dic true tk [] [], ρ)
abbrev rCatAll (K : PySem.W.Frag) : R2 := fun x y H Q => rAddR x y H Q ∨ rCatL K x y H Q ∨ rCatA K x y H Q
theorem op_catL : OpR X (binaryOp .Add) (rCatL X.K) := by
  intro pins s σ H x y v u Q I rx ry h
  obtain ⟨l, b, xs, zs, rfl, rfl, hH, hB, hz, q⟩ := h
  cases rx
  cases ry
  obtain ⟨its, r, ⟨⟨c1, d1, t1, s1⟩, n, e, ec, ed, et⟩, hl⟩ := I.list hH
  obtain ⟨its2, r2, ⟨⟨c2, d2, t2, s2⟩, n2, e2, ec2, ed2, et2⟩, hl2⟩ := I.list hB
  simp only at ec et ec2 et2
  subst ec et ec2 et2
  refine concat_meets ⟨_, e, rfl⟩ ⟨_, e2, rfl⟩ noFill_list_add seq_list_add PySem.F.slot_list_add PySem.F.entry_list_add (PySem.F.args_list_add_2 _ _) (list_addW l b its.toArray its2.toArray n n2 d1 d2 s1 s2 (by rw [List.size_toArray, List.size_toArray, ← r.length, ← r2.length]; exact hz)) ⟨e, e2, ?_⟩
  have ea : its.toArray ++ its2.toArray = (its ++ its2).toArray := by simp
  rw [ea]
  exact ⟨.ref _, _, I.lnew (t' := s.toks) (r.append r2) (by rw [List.length_append]; omega), rfl, q _ I.fresh⟩
theorem jd3 : OpR X (binaryOp .Add) (rCatAll X.K) := op_addR.or (op_catL.or op_catA)
theorem o_cat : BOp K (r2L (rCatAll K)) fCat := fun H M vs ts t Q r e q => by
  unfold fCat at e
  split at e
  · rename_i o1 xs o2 ys
    split at e
    · rename_i c
      cases e
      rw [Bool.and_eq_true, Bool.and_eq_true, decide_eq_true_eq] at c
      obtain ⟨v, w, fp, fq, rfl, r1, r2⟩ := rb2 r
      obtain ⟨a, as, f1, rfl, h1, rs1⟩ := jfp r1
      obtain ⟨b, bs, f2, rfl, h2, rs2⟩ := jfp r2
      have rs1 := reps0 rs1 c.1.1
      have rs2 := reps0 rs2 c.1.2
      refine .inr (.inl ⟨_, _, _, _, rfl, rfl, h1, h2, by rw [rs1.length, rs2.length]; exact c.2, fun p hp => ?_⟩)
      obtain ⟨g1, g2, g3⟩ := jkw (M := M) hp (rs1.app rs2) .nil
      exact q _ _ _ _ g1 g2 g3
    · cases e
  · rename_i xs ys
    split at e
    · rename_i c
      cases e
      rw [Bool.and_eq_true, Bool.and_eq_true, decide_eq_true_eq] at c
      obtain ⟨v, w, fp, fq, rfl, r1, r2⟩ := rb2 r
      cases r1 with
      | @tup a as _ _ h1 rs1 =>
      cases r2 with
      | @tup b bs _ _ h2 rs2 =>
        have rs1 := reps0 rs1 c.1.1
        have rs2 := reps0 rs2 c.1.2
        refine .inr (.inr ⟨_, _, _, _, rfl, rfl, .of h1, .of h2, by rw [rs1.length, rs2.length]; exact c.2, fun z => ?_, fun _ z => ?_, fun _ _ p hp => ?_⟩)
        · subst z
          have : xs = [] := List.length_eq_zero_iff.mp (by rw [← rs1.length]; rfl)
          subst this
          exact q _ H M [] (.tup h2 rs2) .nil .refl
        · subst z
          have : ys = [] := List.length_eq_zero_iff.mp (by rw [← rs2.length]; rfl)
          subst this
          rw [List.append_nil] at q
          exact q _ H M [] (.tup h1 rs1) .nil .refl
        · obtain ⟨g1, g2⟩ := jm4 (M := M) hp (rs1.app rs2)
          exact q _ _ _ _ g1 .nil g2
    · cases e
  · cases e
    rw [jiu r]
    exact .inl (.inl ⟨_, _, rfl, rfl, q _ H M [] (.int _) .nil .refl⟩)
  · split at e
    · rename_i c
      cases e
      obtain ⟨v, w, fp, fq, rfl, r1, r2⟩ := rb2 r
      rw [(jdp r1).1, (jdp r2).1]
      exact .inl (.inr ⟨_, _, rfl, rfl, c, q _ H M [] (.str _) .nil .refl⟩)
    · cases e
  · cases e
def fRep : List T → Option T
  | [.lst true xs, .int k] => if (frs xs && decide (-1000 ≤ k) && decide (k ≤ 1000) && decide (xs.length ≤ 1000)) = true then some (.lst true (List.replicate k.toNat xs).flatten) else none
  | [.int i, .int j] => if (-(2 ^ 64) < i ∧ i < 2 ^ 64) ∨ (-(2 ^ 64) < j ∧ j < 2 ^ 64) then some (.int (i * j)) else none
  | _ => none
def T.ty : T → String
  | .non => "NoneType"
  | .bl _ => "bool"
  | .int _ => "int"
  | .str _ => "str"
  | .tup _ => "tuple"
  | .con _ => "tuple"
  | .lst _ _ => "list"
  | .dic _ _ _ _ => "dict"
  | .ins _ _ _ _ => ""
def T.noIns : T → Bool
  | .ins _ _ _ _ => false
  | _ => true
theorem Rep.tyx {v : V} {t : T} (h : Rep K H M fp v t) (hn : t.noIns = true) : TyX K H v (.type t.ty) := by
  cases h with
  | exn _ _ _ => exact Bool.noConfusion hn
  | exl _ _ _ _ => exact Bool.noConfusion hn
  | insF _ _ _ _ => exact Bool.noConfusion hn
  | insO _ _ _ _ => exact Bool.noConfusion hn
  | hol _ => exact Bool.noConfusion hn
  | mrk _ _ => exact Bool.noConfusion hn
  | non => exact .base .non
  | bl b => exact .base (.bl b)
  | int i => exact .base (.int i)
  | str x => exact .base (.str x)
  | tup e _ => exact .base (.tup e)
  | con e _ =>
    rcases e with ⟨o, _, _, e1, e2, _⟩ | ⟨o, e, _⟩
    · exact .kTuple e1 e2
    · exact .fTuple e
  | lstF e _ _ =>
    rcases e with e | ⟨o, e⟩
    · exact .base (.lst e)
    · exact .base (.frz e)
  | lstK e _ =>
    obtain ⟨o, _, _, e1, e2, _⟩ := e
    exact .kList e1 e2
  | lstO e _ _ => exact .base (.lst e)
  | dKF e _ _ =>
    rcases e with e | ⟨o, e⟩
    · exact .base (.dK e)
    · exact .fDict e
  | dKO e _ _ => exact .base (.dK e)
  | dTF e _ _ => exact .base (.dT e)
  | dTO e _ _ => exact .base (.dT e)
inductive Ki where
  | int | str | bool | list | tuple | dict
def Ki.name : Ki → String
  | .int => "int" | .str => "str" | .bool => "bool" | .list => "list" | .tuple => "tuple" | .dict => "dict"
def T.isi (t : T) : Ki → Bool
  | .int => (match t with | .int _ => true | .bl _ => true | _ => false)
  | .str => (match t with | .str _ => true | _ => false)
  | .bool => (match t with | .bl _ => true | _ => false)
  | .list => (match t with | .lst _ _ => true | _ => false)
  | .tuple => (match t with | .tup _ => true | .con _ => true | _ => false)
  | .dict => (match t with | .dic _ _ _ _ => true | _ => false)
theorem kit_isi {t : T} (h : t.noIns = true) (k : Ki) : PySem.W.kitOne K (.type t.ty) (.type k.name) = some (t.isi k) := by
  cases t <;> cases k <;> first | (exact Bool.noConfusion h) | rfl | (with_unfolding_all rfl) | decide +kernel
def fIsi (k : Ki) : List T → Option T
  | [t] => if t.noIns = true then some (.bl (t.isi k)) else none
  | _ => none
theorem jm6 {C : Str} {p p2 : Pos} (k : Ki) (he : RE X pv e r) (hb : bootBuiltins C = some (.type k.name)) (hm : X.mg "isinstance" = none) (hmC : X.mg C = none) (hg : Gl X "isinstance" := by rfl) (hgC : Gl X C := by rfl) (hn : C ≠ "__name__" := by decide) (hd : (C == ("__debug__" : Str)) = false := by decide)
    (he1 : starEach [e, .Name C p2] X.env = (false, eval e X.env) :: starEach [.Name C p2] X.env := by rfl) (he2 : starEach [.Name C p2] X.env = (false, eval (.Name C p2) X.env) :: starEach [] X.env := by rfl) (hpl : (backTo pos (starEach [.Name C p2] X.env)).any (·.1) = false := by rfl) :
    RE X pv (.Call (.Name "isinstance" p) [e, .Name C p2] [] pos) (rOp1 (fIsi k) r) :=
  weakE (pe_callB call_isi hg hm (by decide +kernel) (pa_cons he (pa_cons (pe_bltn (v := .ty k.name) hgC hmC hb rfl hn hd) pa_nil he2) he1) (by decide) (by decide) he1 hpl) fun σ H Q ⟨M, F, ρ, S, t, e, q⟩ => by
    obtain ⟨x, e1, e3⟩ := jmc e
    refine ⟨M, F, ρ, S, x, e1, fun v fv r1 => ?_⟩
    unfold fIsi at e3
    simp only at e3
    split at e3
    · rename_i c
      cases e3
      exact ⟨v, .ty k.name, .type x.ty, .type k.name, x.isi k, rfl, .ty _, (r1.tyx c), kit_isi c k, q _ [] (.bl _)⟩
    · cases e3
def fIsi2 (k k2 : Ki) : List T → Option T
  | [t] => if t.noIns = true then some (.bl (t.isi k || t.isi k2)) else none
  | _ => none
structure LP (X : Cx) (pv : Pins) (W : WX) (pos : Pos) (keys : List (Option Expr)) (values : List Expr) (ks : List Key) (d : Da) : Prop where
  ex : ∃ trs, PPs X pos keys values trs ∧ (∀ k ∈ keys, k.isSome = true) ∧ keys.length = values.length ∧ keys.length = ks.length ∧ ∀ σ H Q, TAd X pv W d σ H (fun vs H' => vs.length = ks.length → Q ((ks.zip vs).map fun kv => (kV kv.1, kv.2)) H') → tPairs trs σ H Q
theorem lp_nil : LP X pv W pos [] [] [] dNil := ⟨[], pps_nil, (fun _ z => nomatch z), rfl, rfl, fun σ H Q ⟨M, F, ρ, S, h⟩ => h [] H M [] F .nil S (by simpa using S.nd) (by simpa using Stp.refl) rfl⟩
theorem jnr {k v : Expr} {ks : List (Option Expr)} {vs : List Expr} {kk : List Key} {key : Key} (hk : PE X k (tC (kV key))) (hv : LE X pv W v d) (hr : LP X pv W pos ks vs kk ds) : LP X pv W pos (some k :: ks) (v :: vs) (key :: kk) (dCons d ds) := by
  obtain ⟨trs, h1, h2, h3, h4, h5⟩ := hr.ex
  refine ⟨(tC (kV key), TEd X pv W d) :: trs, pps_cons hk hv h1, fun k hk => ?_, by simp [h3], by simp [h4], fun σ H Q ⟨M, F, ρ, S, q⟩ => ?_⟩
  · rcases List.mem_cons.mp hk with e | e
    · rw [e]; rfl
    · exact h2 k e
  · show TEd X pv W d σ H _
    refine (stepE (k := fun t ρ1 => (ds ρ1).bind fun b => .ok (t :: b.1, b.2)) (P := VA X.K X.mg pv σ H M F W _) (fv := []) .nil S S.nd .refl exA id q).mono fun v H1 ⟨t1, ρ1, M1, fv1, F1, a1, a2, a3, a4, a5⟩ => h5 _ _ _ ?_
    refine (stepA (k := fun us ρ1 => .ok (t1 :: us, ρ1)) (P := VA X.K X.mg pv σ H M F W _) a1 a2 a3 a4 exA id a5).mono fun vs H2 ⟨ts, ρ2, M2, fv2, F2, b1, b2, b3, b4, b5⟩ hl => ?_
    exact b5 _ _ _ _ _ b1 b2 b3 b4 (by simp [hl])
theorem jiw : ∀ {more kvs : List (Key × V)}, (more.map Prod.fst).Nodup → (∀ p ∈ more, ∀ q ∈ kvs, q.1 ≠ p.1) → mergeK kvs more = kvs ++ more
  | [], kvs, _, _ => by simp [mergeK]
  | p :: more, kvs, n, h => by
    have e : putK kvs p.1 p.2 = kvs ++ [p] := by
      unfold putK
      rw [if_neg (by
        rw [Bool.not_eq_true, List.any_eq_false]
        intro q hq
        simpa using h p List.mem_cons_self q hq)]
    show mergeK (putK kvs p.1 p.2) more = _
    rw [e]
    rw [List.map_cons] at n
    obtain ⟨n1, n2⟩ := List.nodup_cons.mp n
    rw [jiw n2 (fun a ha b hb => ?_)]
    · simp
    · rcases List.mem_append.mp hb with z | z
      · exact h a (List.mem_cons_of_mem _ ha) b z
      · rw [List.mem_singleton] at z
        subst z
        exact fun z => n1 (z ▸ List.mem_map_of_mem ha)
theorem jhd {p : Addr} {o u : HO} (e : H p = some o) (m : M p) : Frm H M [p] (upd H p u) M := .of (fun a ha => by rw [List.mem_singleton.mp ha]; exact m) (fun a o e n => by rw [upd_ne (fun z => n (by simp [z]))]; exact e) (fun a o e n => Iff.rfl) (fun a o e => by
  by_cases z : a = p
  · subst z; exact ⟨_, upd_same⟩
  · exact ⟨o, by rw [upd_ne z]; exact e⟩)
def dDisp (ks : List Key) (ds : Da) : De := fun ρ => (ds ρ).bind fun x => if x.1.length = ks.length then .ok (.dic true false (ks.map keyT) x.1, x.2) else .bad
theorem l_disp {keys : List (Option Expr)} {values : List Expr} {ks : List Key} (h : LP X pv W pos keys values ks ds) (h0 : keys ≠ [] := by exact fun z => nomatch z) (h15 : ks.length ≤ 15 := by decide) (nd : ks.Nodup := by decide) : LE X pv W (.Dict keys values pos) (dDisp ks ds) := by
  obtain ⟨trs, h1, h2, h3, h4, h5⟩ := h.ex
  refine weakE (pe_disp h1 (List.all_eq_true.mpr h2) h3 h0 (h4 ▸ h15)) fun σ H Q ⟨M, F, ρ, S, q⟩ => fun p hp => h5 _ _ _ ?_
  obtain ⟨g1, g2⟩ := newDK (K := X.K) (M := M) hp
  have pF : p ∉ F := fun z => by
    obtain ⟨x, e⟩ := S.rep.own.some_ z
    rw [hp] at e; cases e
  have S0 : Sta X.K pv (upd H p (.dK [])) (fun a => M a ∨ a = p) F σ ρ := ⟨S.rep.frm g2.frm (fun _ z => nomatch z) (fun _ _ z => nomatch z), S.nd, S.pin⟩
  have st0 : Stp H M F (upd H p (.dK [])) (fun a => M a ∨ a = p) ([p] ++ F) := ⟨g2.frm.any, fun a h => (List.mem_append.mp h).elim (fun z => .inr ((List.mem_singleton.mp z) ▸ hp)) .inl⟩
  have n0 : ([p] ++ F).Nodup := List.nodup_cons.mpr ⟨pF, S.nd⟩
  unfold dDisp at q
  refine ⟨_, F, ρ, S0, ?_⟩
  cases e : ds ρ with
  | bad => rw [e] at q; exact q
  | ex x ρ' => rw [e] at q; exact ex_of st0 (fun cls d H' M' F' a b c => q cls d H' M' F' a b c)
  | ok x =>
    rw [e] at q
    simp only [R.bind] at q
    intro vs H2 M2 fv F2 r S2 n st hl
    by_cases hlen : x.1.length = ks.length
    · rw [if_pos hlen] at q
      have e2 : H2 p = some (.dK []) := st.frm.keep p _ upd_same pF
      have m2 : M2 p := (st.frm.own p _ upd_same pF).mpr (.inr rfl)
      have pG : p ∉ fv ++ F2 := fun z => by
        rcases st.new p z with w | w
        · exact pF w
        · rw [upd_same] at w; cases w
      have hvl : vs.length = ks.length := by rw [r.length]; exact hlen
      have em : mergeK [] (ks.zip vs) = ks.zip vs := by
        rw [jiw (by rw [List.map_fst_zip (by omega)]; exact nd) (fun _ _ q (z : q ∈ []) => by cases z)]
        rfl
      have ef : (ks.zip vs).map (fun kv => keyT kv.1) = ks.map keyT := by
        rw [show (fun kv : Key × V => keyT kv.1) = keyT ∘ Prod.fst from rfl, ← List.map_map, List.map_fst_zip (by omega)]
      have es : (ks.zip vs).map Prod.snd = vs := List.map_snd_zip (by omega)
      refine ⟨e2, ks.zip vs, rfl, by rw [List.length_zip]; omega, ?_⟩
      rw [em]
      have f1 : Frm H2 M2 [p] (upd H2 p (.dK (ks.zip vs))) M2 := jhd e2 m2
      have oP : Own H2 M2 [p] := fun a h => by
        rw [List.mem_singleton] at h
        subst h
        exact ⟨m2, by rw [e2]; trivial⟩
      have dP : ∀ a ∈ fv ++ F2, a ∉ [p] := fun a h z => pG ((List.mem_singleton.mp z) ▸ h)
      have r2 : Reps X.K (upd H2 p (.dK (ks.zip vs))) M2 fv ((ks.zip vs).map Prod.snd) x.1 := by
        rw [es]
        exact r.frm f1 oP fun a h => dP a (List.mem_append_left _ h)
      have r3 := Rep.dKO (upd_same (H := H2) (a := p)) m2 r2
      rw [ef] at r3
      refine q (.ref p) _ M2 (p :: fv) F2 r3 ⟨S2.rep.frm f1 oP fun a h => dP a (List.mem_append_right _ h), S2.nd, S2.pin⟩ (List.nodup_cons.mpr ⟨pG, n⟩) ⟨⟨fun a o e h nt => ?_, fun a o e h => ?_, fun a o e => ?_, fun P q l t => f1.tabs P q l (st.frm.tabs P q l ((jj4 hp).tabs P q l t))⟩, fun a h => ?_⟩
      · have ne : a ≠ p := ne_of_none e hp
        rw [upd_ne ne]
        exact st.frm.keep a o (by rw [upd_ne ne]; exact e) h nt
      · have ne : a ≠ p := ne_of_none e hp
        exact (st.frm.own a o (by rw [upd_ne ne]; exact e) h).trans ⟨fun z => z.resolve_right ne, .inl⟩
      · have ne : a ≠ p := ne_of_none e hp
        rw [upd_ne ne]
        exact st.frm.there a o (by rw [upd_ne ne]; exact e)
      · rcases List.mem_cons.mp h with z | z
        · exact .inr (z ▸ hp)
        · rcases st.new a z with w | w
          · exact .inl w
          · by_cases ne : a = p
            · exact .inr (ne ▸ hp)
            · rw [upd_ne ne] at w
              exact .inr w
    · rw [if_neg hlen] at q; exact q.elim
end
end Q
namespace Q
open PySem PySem.Spec PyProof.Rows L2
variable [tbI : Tbl]
include tbI
def posOf : List T → T → Option Nat
  | [], _ => none
  | k :: ks, x => if k.beq x = true then some 0 else (posOf ks x).map (· + 1)
def atA (n : Str) : T := .ins false n [n] []
def posS : List Str → Str → Option Nat
  | [], _ => none
  | m :: ms, n => if n = m then some 0 else (posS ms n).map (· + 1)
def at1 : T → T → Option T
  | .tup xs, .int i => atI xs i
  | .lst true xs, .int i => atI xs i
  | .dic true tk ks vs, k => if keyOk tk k = true then (posOf ks k).bind fun j => vs[j]? else none
  | .ins true _ (_ :: _ :: ns) (_ :: _ :: vs), .ins false n [_] [] => (posS ns n).bind fun j => vs[j]?
  | .ins false _ [] [.int _, .int _, t], .ins false _ [_, _] [] => some t
  | _, _ => none
def put1 (u : T) : T → T → Option T
  | .tup xs, .int i => (ixN xs.length i).map fun j => .tup (xs.set j u)
  | .lst true xs, .int i => (ixN xs.length i).map fun j => .lst true (xs.set j u)
  | .dic true tk ks vs, k => (posOf ks k).map fun j => .dic true tk ks (vs.set j u)
  | .ins true c (m1 :: m2 :: ns) (u1 :: u2 :: vs), .ins false n [_] [] => (posS ns n).map fun j => .ins true c (m1 :: m2 :: ns) (u1 :: u2 :: vs.set j u)
  | .ins false c [] [.int j, .int z, _], .ins false _ [_, _] [] => some (.ins false c [] [.int j, .int z, u])
  | _, _ => none
omit tbI in
theorem at1_mk {c : Str} {j z : Int} {t k u : T} (h : at1 (.ins false c [] [.int j, .int z, t]) k = some u) : u = t ∧ ∃ c' n m, k = .ins false c' [n, m] [] := by
  unfold at1 at h
  split at h
  all_goals first | (rename_i h1; cases h1; done) | skip
  · rename_i h1
    cases h1
    cases h
    exact ⟨rfl, _, _, _, rfl⟩
  · cases h
def pathT : T → List T → Option T
  | t, [] => some t
  | t, k :: ks => (at1 t k).bind fun c => pathT c ks
def putP (u : T) : T → List T → Option T
  | _, [] => some u
  | t, k :: ks => (at1 t k).bind fun c => (putP u c ks).bind fun c' => put1 c' t k
theorem jkz : ∀ (ps : List T) (t k : T), pathT t (ps ++ [k]) = (pathT t ps).bind fun c => at1 c k
  | [], t, k => by simp [pathT]
  | p :: ps, t, k => by
    show ((at1 t p).bind fun c => pathT c (ps ++ [k])) = ((at1 t p).bind fun c => pathT c ps).bind _
    cases at1 t p with
    | none => rfl
    | some c => exact jkz ps c k
def St1 (H : Hp) (v : V) (k : T) (y : V) : Prop := ∃ a, v = .ref a ∧
  ((∃ vs i, (H a = some (.tup vs) ∨ H a = some (.lst vs)) ∧ k = .int i ∧ atI vs i = some y) ∨
   (∃ kvs k', H a = some (.dK kvs) ∧ k = keyT k' ∧ valV kvs k' = some y) ∨ (∃ kvs kl, H a = some (.dT kvs) ∧ k = .tup (kl.map keyT) ∧ valV kvs kl = some y) ∨ (∃ (C dx : Addr) (fs : List (Str × V)) (n : Str), H a = some (.ins C dx fs) ∧ k = atA n ∧ fs.lookup n = some y) ∨ ∃ (c n m : Str), k = .ins false c [n, m] [] ∧ y = .ref a)
inductive AtV (H : Hp) : V → List T → V → Prop
  | nil (v : V) : AtV H v [] v
  | cons {v y z : V} {k : T} {ks : List T} : St1 H v k y → AtV H y ks z → AtV H v (k :: ks) z
theorem AtV.snoc {H : Hp} {v y z : V} {ps : List T} {k : T} (h : AtV H v ps y) (s : St1 H y k z) : AtV H v (ps ++ [k]) z := by
  induction h with
  | nil v => exact .cons s (.nil _)
  | cons a _ ih => exact .cons a (ih s)
section
variable {K : PySem.W.Frag} {H H1 : Hp} {M M1 : MS} {vs : List V} {ts : List T} {fv fp : List Addr}
theorem Reps.focus : ∀ {fp : List Addr} {vs : List V} {ts : List T} {j : Nat} {u : T}, Reps K H M fp vs ts → ts[j]? = some u → ∃ y fq rest, vs[j]? = some y ∧ Rep K H M fq y u ∧ fp.Perm (fq ++ rest) ∧
    ∀ {H' : Hp} {M' : MS} {F fq' : List Addr} {u' : T}, Frm H M F H' M' → Own H M F → (∀ a ∈ rest, a ∉ F) → Rep K H' M' fq' y u' → ∃ fp', Reps K H' M' fp' vs (ts.set j u') ∧ fp'.Perm (fq' ++ rest)
  | _, _, _, _, _, .nil, e => by simp at e
  | _, _, _, 0, u, .cons (fp := fp) (fq := fr) (v := v) r rs, e => by
    simp at e; subst e
    refine ⟨v, fp, fr, rfl, r, .refl _, fun f o d r' => ⟨_, .cons r' (rs.frm f o d), .refl _⟩⟩
  | _, _, _, j + 1, u, .cons (fp := fp) (fq := fr) (v := v) r rs, e => by
    obtain ⟨y, fq, rest, h1, h2, h3, h4⟩ := rs.focus (j := j) (by simpa using e)
    have pm : ∀ A : List Addr, (fp ++ (A ++ rest)).Perm (A ++ (fp ++ rest)) := fun A => by
      rw [← List.append_assoc, ← List.append_assoc]
      exact List.perm_append_comm.append_right rest
    refine ⟨y, fq, fp ++ rest, by simpa using h1, h2, (List.Perm.append_left fp h3).trans (pm fq), fun {H' M' F fq' u'} f o d r' => ?_⟩
    obtain ⟨fp', g1, g2⟩ := h4 f o (fun a ha => d a (List.mem_append_right _ ha)) r'
    exact ⟨fp ++ fp', .cons (r.frm f o fun a ha => d a (List.mem_append_left _ ha)) g1, (List.Perm.append_left fp g2).trans (pm fq')⟩
theorem jns {k : Key} : ∀ {kvs : List (Key × V)}, valV kvs k = (posOf (kvs.map fun kv => keyT kv.1) (keyT k)).bind fun j => (kvs.map Prod.snd)[j]?
  | [] => rfl
  | p :: kvs => by
    rw [List.map_cons, List.map_cons, posOf, jj5]
    by_cases e : p.1 = k
    · rw [if_pos (by simpa using e), valV_pos e]; rfl
    · rw [if_neg (by simpa using e)]
      have : valV (p :: kvs) k = valV kvs k := by simp [valV, List.find?_cons, e]
      rw [this, jns, Option.bind_map]
      congr 1
theorem jnt {k : List Key} : ∀ {kvs : List (List Key × V)}, valV kvs k = (posOf (kvs.map fun kv => T.tup (kv.1.map keyT)) (.tup (k.map keyT))).bind fun j => (kvs.map Prod.snd)[j]?
  | [] => rfl
  | p :: kvs => by
    rw [List.map_cons, List.map_cons, posOf, T.beq]
    simp only [jii]
    by_cases e : p.1 = k
    · rw [if_pos (by simpa using e), valV_pos e]; rfl
    · rw [if_neg (by simpa using e)]
      have : valV (p :: kvs) k = valV kvs k := by simp [valV, List.find?_cons, e]
      rw [this, jnt, Option.bind_map]
      congr 1
theorem atI_ix {α : Type} {xs : List α} {i : Int} {y : α} (h : atI xs i = some y) : ∃ j, ixN xs.length i = some j ∧ xs[j]? = some y := Option.bind_eq_some_iff.mp h
theorem posS_l (n : Str) : ∀ fs : List (Str × V), fs.lookup n = (posS (fs.map Prod.fst) n).bind fun j => (fs.map Prod.snd)[j]?
  | [] => rfl
  | p :: fs => by
    rw [List.map_cons, List.map_cons, posS]
    by_cases e : n = p.1
    · rw [if_pos e, List.lookup_cons, e]
      simp
    · rw [if_neg e, List.lookup_cons]
      have : (n == p.1) = false := by simpa using e
      rw [this]
      show fs.lookup n = _
      rw [posS_l n fs, Option.bind_map]
      congr 1
theorem Rep.focus1 {v y : V} {t k u : T} (r : Rep K H M fp v t) (e : at1 t k = some u) (s : St1 H v k y) : ∃ fq rest, Rep K H M fq y u ∧ fp.Perm (fq ++ rest) ∧
    ∀ {H' : Hp} {M' : MS} {F fq' : List Addr} {u' : T}, Frm H M F H' M' → Own H M F → (∀ a ∈ rest, a ∉ F) → Rep K H' M' fq' y u' → ∃ t' fp', put1 u' t k = some t' ∧ Rep K H' M' fp' v t' ∧ fp'.Perm (fq' ++ rest) := by
  obtain ⟨a, rfl, s⟩ := s
  have pc : ∀ (A B : List Addr), (a :: (A ++ B)).Perm (A ++ a :: B) := fun A B => List.perm_middle.symm
  cases r with
  | tup h rs =>
    rcases s with ⟨ws, i, g, rfl, ei⟩ | ⟨_, _, g, _⟩ | ⟨_, _, g, _⟩ | ⟨_, _, _, _, g, _⟩ | ⟨_, _, _, rfl, _⟩
    · rw [h] at g
      rcases g with g | g <;> cases g
      obtain ⟨j, j1, j2⟩ := atI_ix e
      obtain ⟨j', k1, k2⟩ := atI_ix ei
      rw [rs.length] at k1
      rw [j1] at k1; cases k1
      obtain ⟨y', fq, rest, h1, h2, h3, h4⟩ := rs.focus j2
      rw [k2] at h1; cases h1
      refine ⟨fq, rest, h2, h3, fun {H' M' F fq' u'} f o d r' => ?_⟩
      obtain ⟨fp', g1, g2⟩ := h4 f o d r'
      exact ⟨_, fp', by simp [put1, j1], .tup (f.keep _ _ h fun ha => jkr (o _ ha).2 (.inl h)) g1, g2⟩
    · rw [h] at g; cases g
    · rw [h] at g; cases g
    · rw [h] at g; cases g
    · simp [at1] at e
  | lstO h m rs =>
    rcases s with ⟨ws, i, g, rfl, ei⟩ | ⟨_, _, g, _⟩ | ⟨_, _, g, _⟩ | ⟨_, _, _, _, g, _⟩ | ⟨_, _, _, rfl, _⟩
    · rw [h] at g
      rcases g with g | g <;> cases g
      obtain ⟨j, j1, j2⟩ := atI_ix e
      obtain ⟨j', k1, k2⟩ := atI_ix ei
      rw [rs.length] at k1
      rw [j1] at k1; cases k1
      obtain ⟨y', fq, rest, h1, h2, h3, h4⟩ := rs.focus j2
      rw [k2] at h1; cases h1
      refine ⟨fq, a :: rest, h2, (h3.cons a).trans (pc _ _), fun {H' M' F fq' u'} f o d r' => ?_⟩
      obtain ⟨fp', g1, g2⟩ := h4 f o (fun b hb => d b (List.mem_cons_of_mem _ hb)) r'
      exact ⟨_, a :: fp', by simp [put1, j1], .lstO (f.keep _ _ h (d a List.mem_cons_self)) ((f.own _ _ h (d a List.mem_cons_self)).mpr m) g1, (g2.cons a).trans (pc _ _)⟩
    · rw [h] at g; cases g
    · rw [h] at g; cases g
    · rw [h] at g; cases g
    · simp [at1] at e
  | dKO h m rs =>
    rcases s with ⟨ws, i, g, rfl, ei⟩ | ⟨kvs, k', g, rfl, ei⟩ | ⟨_, _, g, _⟩ | ⟨_, _, _, _, g, _⟩ | ⟨_, _, _, rfl, _⟩
    · rw [h] at g
      rcases g with g | g <;> cases g
    · rw [h] at g; cases g
      simp only [at1] at e
      split at e
      · rw [jns] at ei
        obtain ⟨j, j1, j2⟩ := Option.bind_eq_some_iff.mp e
        rw [j1] at ei
        obtain ⟨y', fq, rest, h1, h2, h3, h4⟩ := rs.focus j2
        have : some y' = some y := h1.symm.trans ei
        cases this
        refine ⟨fq, a :: rest, h2, (h3.cons a).trans (pc _ _), fun {H' M' F fq' u'} f o d r' => ?_⟩
        obtain ⟨fp', g1, g2⟩ := h4 f o (fun b hb => d b (List.mem_cons_of_mem _ hb)) r'
        exact ⟨_, a :: fp', by simp [put1, j1], .dKO (f.keep _ _ h (d a List.mem_cons_self)) ((f.own _ _ h (d a List.mem_cons_self)).mpr m) g1, (g2.cons a).trans (pc _ _)⟩
      · cases e
    · rw [h] at g; cases g
    · rw [h] at g; cases g
    · simp [at1, keyOk, T.leaf] at e
  | dTO h m rs =>
    rcases s with ⟨ws, i, g, rfl, ei⟩ | ⟨kvs, k', g, rfl, ei⟩ | ⟨kvs, k', g, rfl, ei⟩ | ⟨_, _, _, _, g, _⟩ | ⟨_, _, _, rfl, _⟩
    · rw [h] at g
      rcases g with g | g <;> cases g
    · rw [h] at g; cases g
    · rw [h] at g; cases g
      simp only [at1] at e
      split at e
      · rw [jnt] at ei
        obtain ⟨j, j1, j2⟩ := Option.bind_eq_some_iff.mp e
        rw [j1] at ei
        obtain ⟨y', fq, rest, h1, h2, h3, h4⟩ := rs.focus j2
        have : some y' = some y := h1.symm.trans ei
        cases this
        refine ⟨fq, a :: rest, h2, (h3.cons a).trans (pc _ _), fun {H' M' F fq' u'} f o d r' => ?_⟩
        obtain ⟨fp', g1, g2⟩ := h4 f o (fun b hb => d b (List.mem_cons_of_mem _ hb)) r'
        exact ⟨_, a :: fp', by simp [put1, j1], .dTO (f.keep _ _ h (d a List.mem_cons_self)) ((f.own _ _ h (d a List.mem_cons_self)).mpr m) g1, (g2.cons a).trans (pc _ _)⟩
      · cases e
    · rw [h] at g; cases g
    · simp [at1, keyOk, T.tkey] at e
  | @insO a C dx c m1 m2 fs f0 us g0 h m rs =>
    rcases s with ⟨ws, i, g, rfl, ei⟩ | ⟨_, _, g, _⟩ | ⟨_, _, g, _⟩ | ⟨_, _, _, n, g, rfl, ei⟩ | ⟨_, _, _, rfl, _⟩
    · rw [h] at g
      rcases g with g | g <;> cases g
    · rw [h] at g; cases g
    · rw [h] at g; cases g
    · rw [h] at g; cases g
      obtain ⟨j, j1, j2⟩ := Option.bind_eq_some_iff.mp (show (posS (fs.map Prod.fst) n).bind (fun j => us[j]?) = some u from e)
      rw [posS_l, j1] at ei
      obtain ⟨y', fq, rest, h1, h2, h3, h4⟩ := rs.focus j2
      have : some y' = some y := h1.symm.trans ei
      cases this
      refine ⟨fq, a :: rest, h2, (h3.cons a).trans (pc _ _), fun {H' M' F fq' u'} f o d r' => ?_⟩
      obtain ⟨fp', g1, g2⟩ := h4 f o (fun b hb => d b (List.mem_cons_of_mem _ hb)) r'
      exact ⟨.ins true c (m1 :: m2 :: fs.map Prod.fst) (.non :: .non :: us.set j u'), a :: fp', by show (posS (fs.map Prod.fst) n).map _ = _; rw [j1]; rfl, .insO g0 (f.keep _ _ h (d a List.mem_cons_self)) ((f.own _ _ h (d a List.mem_cons_self)).mpr m) g1, (g2.cons a).trans (pc _ _)⟩
    · simp [at1] at e
  | @mrk a j z fp t ez r =>
    obtain ⟨rfl, c', n', m', rfl⟩ := at1_mk e
    rcases s with ⟨ws, i, g, hk, ei⟩ | ⟨kvs, k', g, hk, ei⟩ | ⟨kvs, k', g, hk, ei⟩ | ⟨_, _, _, n, g, hk, ei⟩ | ⟨_, _, _, hk, ey⟩
    · cases hk
    · cases k' <;> cases hk
    · cases hk
    · cases hk
    · subst ey
      refine ⟨fp, [], r, by simp, fun {H' M' F fq' u'} f o d r' => ?_⟩
      exact ⟨_, fq', rfl, .mrk ez r', by simp⟩
  | _ => simp [at1] at e
theorem Rep.focusP : ∀ {ps : List T} {fp : List Addr} {v y : V} {t u : T}, Rep K H M fp v t → pathT t ps = some u → AtV H v ps y → ∃ fq rest, Rep K H M fq y u ∧ fp.Perm (fq ++ rest) ∧
    ∀ {H' : Hp} {M' : MS} {F fq' : List Addr} {u' : T}, Frm H M F H' M' → Own H M F → (∀ a ∈ rest, a ∉ F) → Rep K H' M' fq' y u' → ∃ t' fp', putP u' t ps = some t' ∧ Rep K H' M' fp' v t' ∧ fp'.Perm (fq' ++ rest)
  | [], fp, v, y, t, u, r, e, a => by
    cases a
    cases e
    exact ⟨fp, [], r, by simp, fun {H' M' F fq' u'} f o d r' => ⟨u', fq', rfl, r', by simp⟩⟩
  | k :: ps, fp, v, y, t, u, r, e, a => by
    cases a with
    | cons s a =>
      obtain ⟨c, c1, c2⟩ := Option.bind_eq_some_iff.mp e
      obtain ⟨fq, rest, h1, h2, h3⟩ := r.focus1 c1 s
      obtain ⟨fq2, rest2, g1, g2, g3⟩ := h1.focusP c2 a
      refine ⟨fq2, rest2 ++ rest, g1, ?_, fun {H' M' F fq' u'} f o d r' => ?_⟩
      · rw [← List.append_assoc]
        exact h2.trans (g2.append_right rest)
      · obtain ⟨c', fc, k1, k2, k3⟩ := g3 f o (fun b hb => d b (List.mem_append_left _ hb)) r'
        obtain ⟨t', fp', l1, l2, l3⟩ := h3 f o (fun b hb => d b (List.mem_append_right _ hb)) k2
        refine ⟨t', fp', by simp [putP, c1, k1, l1], l2, l3.trans ?_⟩
        rw [← List.append_assoc]
        exact k3.append_right rest
theorem no_inn {v : V} {c n m : Str} (r : Rep K H M fp v (.ins false c [n, m] [])) : False := by
  generalize h : T.ins false c [n, m] [] = t at r
  cases r <;> first | (cases h; done) | (injection h with _ _ _ h4; cases h4; done)
theorem st1_of {v kv : V} {t k u : T} {fq : List Addr} (r : Rep K H M fp v t) (rk : Rep K H M fq kv k) (e : at1 t k = some u) : ∃ y, St1 H v k y ∧ ∀ Q : VK, Q y H → rIxAll K v kv H Q := by
  cases r with
  | tup h rs =>
    cases k with
    | int i =>
      obtain ⟨y, _, e1, _⟩ := jiv rs e
      exact ⟨y, ⟨_, rfl, .inl ⟨_, i, .inl h, rfl, e1⟩⟩, fun Q q => .inl (.inr (.inl ⟨_, _, i, y, rfl, (je7 rk).1, .of h, e1, q⟩))⟩
    | _ => simp [at1] at e
  | lstO h m rs =>
    cases k with
    | int i =>
      obtain ⟨y, _, e1, _⟩ := jiv rs e
      exact ⟨y, ⟨_, rfl, .inl ⟨_, i, .inr h, rfl, e1⟩⟩, fun Q q => .inl (.inl ⟨_, _, i, y, rfl, (je7 rk).1, .of h, e1, q⟩)⟩
    | _ => simp [at1] at e
  | @dKO a kvs _ _ h m rs =>
    simp only [at1] at e
    split at e
    · rename_i c
      obtain ⟨k', rfl, rfl⟩ := jhp rk c
      obtain ⟨j, j1, j2⟩ := Option.bind_eq_some_iff.mp e
      obtain ⟨y, _, _, h1, _⟩ := rs.focus j2
      have ey : valV kvs k' = some y := by rw [jns, j1]; exact h1
      exact ⟨y, ⟨_, rfl, .inr (.inl ⟨_, _, h, rfl, ey⟩)⟩, fun Q q => .inr ⟨_, y, rfl, .inl ⟨_, _, .inl h, rfl, ey.symm⟩, q⟩⟩
    · cases e
  | @dTO a kvs _ _ h m rs =>
    simp only [at1] at e
    split at e
    · rename_i c
      obtain ⟨kl, b, rfl, rfl, hb⟩ := jhp rk c
      obtain ⟨j, j1, j2⟩ := Option.bind_eq_some_iff.mp e
      obtain ⟨y, _, _, h1, _⟩ := rs.focus j2
      have ey : valV kvs kl = some y := by rw [jnt, j1]; exact h1
      exact ⟨y, ⟨_, rfl, .inr (.inr (.inl ⟨_, _, h, rfl, ey⟩))⟩, fun Q q => .inr ⟨_, y, rfl, .inr ⟨_, _, _, .inl h, rfl, hb, ey.symm⟩, q⟩⟩
    · cases e
  | insO _ _ _ _ =>
    unfold at1 at e
    split at e
    all_goals first | (cases rk; done) | (rename_i h1; cases h1; done) | cases e
  | mrk _ _ =>
    obtain ⟨rfl, c', n', m', rfl⟩ := at1_mk e
    exact (no_inn rk).elim
  | _ => simp [at1] at e
end
end Q
namespace Q
open PySem PySem.Spec PyProof.Rows L2
variable [tbI : Tbl]
include tbI
section
variable {X : Cx} {pv : Pins} {W : WX} {e a b o : Expr} {es : List Expr} {pos apos : Pos} {d da db : De} {r s : Dr} {ds p : Da} {i : Nat}
variable {K : PySem.W.Frag} {mg : Str → Option Value} {H H1 H2 : Hp} {M M1 M2 : MS} {F F1 F2 G fv fp : List Addr} {σ : Sg} {ρ ρ1 : Env} {vs : List V} {ts : List T}
def VPt (K : PySem.W.Frag) (mg : Str → Option Value) (pv : Pins) (i : Nat) (σ : Sg) (H : Hp) (M : MS) (F : List Addr) (W : WX) (Q : V → Hp → Prop) : R (List T × Env) → Prop
  | .ok (ps, ρ') => ∀ v0 v H' M' F', σ[i]? = some (some v0) → AtV H' v0 ps v → Sta K pv H' M' F' σ ρ' → Stp H M F H' M' F' → Q v H'
  | .ex x ρ' => ∀ cls d H' M' F', ExR mg H' cls d x → Sta K pv H' M' F' σ ρ' → Stp H M F H' M' F' → W cls d σ H'
  | .bad => False
def TPd (X : Cx) (pv : Pins) (W : WX) (i : Nat) (p : Da) : TE := fun σ H Q => ∃ M F ρ, Sta X.K pv H M F σ ρ ∧ VPt X.K X.mg pv i σ H M F W Q (p ρ)
abbrev PP (X : Cx) (pv : Pins) (W : WX) (e : Expr) (i : Nat) (p : Da) : Prop := PE X e (TPd X pv W i p)
def pName (i : Nat) : Da := fun ρ => match rVar i ρ with | some _ => .ok ([], ρ) | none => .bad
theorem jk0 (i : Nat) {x : Str} (hN : X.N[i]? = some x := by rfl) (hv : Vis X.env.scope x := by first | exact Or.inl rfl | exact Or.inr (Or.inl rfl) | exact Or.inr (Or.inr rfl)) (hd : (x == ("__debug__" : Str)) = false := by decide)
    (hcd : (x == ("__classdict__" : Str)) = false := by decide) : PP X pv W (.Name x pos) i (pName i) := weakE (pe_var hN hv hd hcd) fun σ H Q ⟨M, F, ρ, S, q⟩ => by
  unfold pName at q
  cases e : rVar i ρ with
  | none => rw [e] at q; exact q.elim
  | some t =>
    rw [e] at q
    obtain ⟨v, fp, h1, h2, _⟩ := S.rep.get (je5 e)
    exact ⟨v, h1, q v v H M F h1 (.nil v) S .refl⟩
def pIx0 (i : Nat) (d : De) : Da := fun ρ => match rVar i ρ with
  | none => .bad
  | some _ => (d ρ).bind fun x => match rVar i x.2 with
    | some t => if (at1 t x.1).isSome = true then .ok ([x.1], x.2) else .bad
    | none => .bad
def pIx (i : Nat) (p : Da) (r : Dr) : Da := fun ρ => (p ρ).bind fun x => match r x.2, rVar i x.2 with
  | some k, some t => if (pathT t (x.1 ++ [k])).isSome = true then .ok (x.1 ++ [k], x.2) else .bad
  | _, _ => .bad
theorem pp_ix (hu : X.A.units + 1 < cLine) (h : PP X pv W a i p) (hr : RE X pv b r) (hp : PlainIx b := by exact fun _ _ => rfl) : PP X pv W (.Subscript a b pos) i (pIx i p r) := weakE (pe_ix (jb2 hu) h hr hp) fun σ H Q ⟨M, F, ρ, S, q⟩ => by
  refine ⟨M, F, ρ, S, ?_⟩
  unfold pIx at q
  cases e2 : p ρ with
  | bad => rw [e2] at q; exact q
  | ex x ρ' => rw [e2] at q; exact q
  | ok x =>
    rw [e2] at q
    simp only [R.bind] at q
    intro v0 v H' M' F' g1 g2 g3 g4
    cases e3 : r x.2 with
    | none => rw [e3] at q; exact q.elim
    | some k =>
      cases e4 : rVar i x.2 with
      | none => rw [e3, e4] at q; exact q.elim
      | some t =>
        rw [e3, e4] at q
        simp only at q
        rw [jkz] at q
        cases e5 : pathT t x.1 with
        | none => rw [e5] at q; exact q.elim
        | some c =>
          rw [e5] at q
          have q : VPt X.K X.mg pv i σ H M F W Q (if (at1 c k).isSome = true then .ok (x.1 ++ [k], x.2) else .bad) := q
          cases e6 : at1 c k with
          | none => rw [e6] at q; exact q.elim
          | some u =>
            rw [e6] at q
            refine ⟨M', F', x.2, g3, k, e3, fun kv fk rk => ?_⟩
            obtain ⟨w, fw, k1, k2, _⟩ := g3.rep.get (je5 e4)
            rw [g1] at k1; cases k1
            obtain ⟨fq, rest, h1, h2, _⟩ := k2.focusP e5 g2
            obtain ⟨y, s1, s2⟩ := st1_of h1 rk e6
            exact s2 Q (q v0 y H' M' F' g1 (g2.snoc s1) g3 g4)
theorem slot_op {v0 y : V} {t u : T} {ps : List T} (S : Sta K pv H M F σ ρ) (e : rVar i ρ = some t) (eσ : σ[i]? = some (some v0)) (at_ : AtV H v0 ps y) (ep : pathT t ps = some u) (rs : Own H M fv) (nd : (fv ++ F).Nodup) :
    ∃ fq, Rep K H M fq y u ∧ (fq ++ fv).Nodup ∧ ∀ {H' : Hp} {M' : MS} {fr fq' : List Addr} {u' : T}, Rep K H' M' fq' y u' → (fr ++ fq').Nodup → Stp H M (fq ++ fv) H' M' (fr ++ fq') →
      ∃ t' F', putP u' t ps = some t' ∧ Sta K pv H' M' F' σ (ρ.set i (some t')) ∧ (fr ++ F').Nodup ∧ Stp H M (fv ++ F) H' M' (fr ++ F') := by
  obtain ⟨w, fp, G, h1, h2, h3, h4⟩ := S.rep.take (je5 e)
  rw [eσ] at h1; cases h1
  obtain ⟨fq, rest, g1, g2, g3⟩ := h2.focusP ep at_
  have p1 : F.Perm (fq ++ (rest ++ G)) := by
    rw [← List.append_assoc]
    exact h4.trans (g2.append_right G)
  have nA : ((fq ++ fv) ++ (rest ++ G)).Nodup := by
    have : (fv ++ F).Perm ((fq ++ fv) ++ (rest ++ G)) := by
      refine (List.Perm.append_left fv p1).trans ?_
      rw [← List.append_assoc]
      exact List.perm_append_comm.append_right _
    exact jks this nd
  obtain ⟨n1, n2, n3⟩ := List.nodup_append.mp nA
  refine ⟨fq, g1, n1, fun {H' M' fr fq' u'} r' n' s => ?_⟩
  have oA : Own H M (fq ++ fv) := g1.own.app rs
  have dB : ∀ a ∈ rest ++ G, a ∉ fq ++ fv := fun a h h' => n3 a h' a h rfl
  have inF : ∀ a ∈ rest ++ G, a ∈ F := fun a h => p1.mem_iff.mpr (List.mem_append_right _ h)
  have dN : ∀ a ∈ rest ++ G, a ∉ fr ++ fq' := fun a h h' => by
    rcases s.new a h' with z | z
    · exact dB a h z
    · obtain ⟨x, e⟩ := S.rep.own.some_ (inF a h)
      rw [e] at z; cases z
  obtain ⟨t', fp', k1, k2, k3⟩ := g3 s.frm oA (fun a h => dB a (List.mem_append_left _ h)) r'
  have S1 := h3.frm s.frm oA fun a h => dB a (List.mem_append_right _ h)
  have hl : i < ρ.length := (List.getElem?_eq_some_iff.mp (je5 e)).1
  obtain ⟨F', r3, pF⟩ := S1.put (i := i) (v := v0) (by rw [List.getElem?_set_self hl]) k2
  rw [jin eσ, List.set_set] at r3
  have p2 : F'.Perm (fq' ++ (rest ++ G)) := by
    rw [← List.append_assoc]
    exact pF.trans (k3.append_right G)
  have nB : ((fr ++ fq') ++ (rest ++ G)).Nodup := List.nodup_append.mpr ⟨n', n2, fun a ha b hb z => dN b hb (z ▸ ha)⟩
  have nF : (fr ++ F').Nodup := by
    refine (List.Perm.nodup_iff (List.Perm.append_left fr p2)).mpr ?_
    rw [← List.append_assoc]
    exact nB
  refine ⟨t', F', k1, ⟨r3, (List.nodup_append.mp nF).2.1, S.pin⟩, nF, ⟨(s.wide fun a ha => ?_).frm, fun a ha => ?_⟩⟩
  · rcases List.mem_append.mp ha with z | z
    · exact List.mem_append_right _ (p1.mem_iff.mpr (List.mem_append_left _ z))
    · exact List.mem_append_left _ z
  · have key : a ∈ fr ++ fq' ∨ a ∈ rest ++ G := by
      rcases List.mem_append.mp ha with z | z
      · exact .inl (List.mem_append_left _ z)
      · rcases List.mem_append.mp (p2.mem_iff.mp z) with z | z
        · exact .inl (List.mem_append_right _ z)
        · exact .inr z
    rcases key with z | z
    · refine (s.new a z).imp (fun z => ?_) id
      rcases List.mem_append.mp z with z | z
      · exact List.mem_append_right _ (p1.mem_iff.mpr (List.mem_append_left _ z))
      · exact List.mem_append_left _ z
    · exact .inl (List.mem_append_right _ (inF a z))
def MOp (K : PySem.W.Frag) (r : V → List V → Hp → VK → Prop) (f : T → List T → Option (T × T)) : Prop :=
  ∀ H M fq y u fw vs ts res u' Q, Rep K H M fq y u → Reps K H M fw vs ts → (fq ++ fw).Nodup → f u ts = some (res, u') →
    (∀ v H' M' fr fq', Rep K H' M' fr v res → Rep K H' M' fq' y u' → (fr ++ fq').Nodup → Stp H M (fq ++ fw) H' M' (fr ++ fq') → Q v H') → r y vs H Q
def jbp (i : Nat) (f : T → List T → Option (T × T)) (ps ts : List T) (ρ : Env) : R (T × Env) := match rVar i ρ with
  | some t => match pathT t ps with
    | some u => match f u ts with
      | some (res, u') => match putP u' t ps with
        | some t' => .ok (res, ρ.set i (some t'))
        | none => .bad
      | none => .bad
    | none => .bad
  | none => .bad
theorem finM {rr : V → List V → Hp → VK → Prop} {f : T → List T → Option (T × T)} {v0 y : V} {ps : List T} {Q : VK} (o : MOp X.K rr f) (S1 : Sta X.K pv H1 M1 F1 σ ρ1) (eσ : σ[i]? = some (some v0)) (at_ : AtV H1 v0 ps y)
    (rs : Reps X.K H1 M1 fv vs ts) (nd : (fv ++ F1).Nodup) (st : Stp H M F H1 M1 (fv ++ F1)) (q : VQ X.K X.mg pv σ H M F W Q (jbp i f ps ts ρ1)) : rr y vs H1 Q := by
  unfold jbp at q
  cases e1 : rVar i ρ1 with
  | none => rw [e1] at q; exact q.elim
  | some t =>
    rw [e1] at q
    simp only at q
    cases e2 : pathT t ps with
    | none => rw [e2] at q; exact q.elim
    | some u =>
      rw [e2] at q
      simp only at q
      cases e3 : f u ts with
      | none => rw [e3] at q; exact q.elim
      | some x =>
        obtain ⟨res, u'⟩ := x
        rw [e3] at q
        simp only at q
        obtain ⟨fq, g1, g2, g3⟩ := slot_op S1 e1 eσ at_ e2 rs.own nd
        refine o H1 M1 fq y u fv vs ts res u' Q g1 rs g2 e3 fun v H' M' fr fq' r1 r2 n' s => ?_
        obtain ⟨t', F', k1, k2, k3, k4⟩ := g3 r2 n' s
        rw [k1] at q
        exact q v H' M' fr F' r1 k2 k3 (st.trans0 k4)
def T.isO (dct : Bool) : T → Bool
  | .lst true _ => !dct
  | .dic true _ _ _ => dct
  | _ => false
def tyN (dct : Bool) : String := if dct = true then "dict" else "list"
theorem tyV_of {y : V} {u : T} {dct : Bool} (h : Rep K H M fp y u) (e : u.isO dct = true) : tyV K (tyN dct) y H := by
  cases h with
  | lstO h m rs =>
    cases dct with
    | true => cases e
    | false => exact .inl ⟨rfl, _, .of h⟩
  | dKO h m rs =>
    cases dct with
    | true => exact .inr (.inr (.inl ⟨rfl, .inl ⟨_, h⟩⟩))
    | false => cases e
  | dTO h m rs =>
    cases dct with
    | true => exact .inr (.inr (.inl ⟨rfl, .inr ⟨_, h⟩⟩))
    | false => cases e
  | _ => cases e
def atK (dct : Bool) (i : Nat) (ps : List T) (ρ : Env) : Bool := match (rVar i ρ).bind fun t => pathT t ps with
  | some u => u.isO dct
  | none => false
theorem atK_ty {dct : Bool} {v0 y : V} {ps : List T} (h : atK dct i ps ρ = true) (S : Sta K pv H M F σ ρ) (eσ : σ[i]? = some (some v0)) (at_ : AtV H v0 ps y) : tyV K (tyN dct) y H := by
  unfold atK at h
  split at h
  · rename_i u e
    obtain ⟨t, e1, e2⟩ := Option.bind_eq_some_iff.mp e
    obtain ⟨v, fp, h1, h2, _⟩ := S.rep.get (je5 e1)
    rw [eσ] at h1; cases h1
    obtain ⟨fq, rest, g1, _, _⟩ := h2.focusP e2 at_
    exact tyV_of g1 h
  · cases h
def jdv (dct : Bool) (i : Nat) (f : T → List T → Option (T × T)) (p : Da) : De := fun ρ => (p ρ).bind fun x => if atK dct i x.1 x.2 = true then jbp i f x.1 [] x.2 else .bad
section
variable {dct : Bool} {id : String} {name : Str} {rr : V → List V → Hp → VK → Prop} {f : T → List T → Option (T × T)} {cpos np : Pos}
def dMeth (dct : Bool) (i : Nat) (f : T → List T → Option (T × T)) (ds : Da) : De := fun ρ => if atK dct i [] ρ = true then (ds ρ).bind fun y => jbp i f [] y.1 y.2 else .bad
theorem l_meth (i : Nat) {x : Str} (pa : PlainAttrs (tyN dct)) (slot : Slot (tyN dct) name id) (hty : typeOf (.builtin id) = pure (.type "method_descriptor")) (hm : MtR X id rr) (op : MOp X.K rr f) (ha : LA X pv W (e :: es) ds)
    (hN : X.N[i]? = some x := by rfl) (hv : Vis X.env.scope x := by first | exact Or.inl rfl | exact Or.inr (Or.inl rfl) | exact Or.inr (Or.inr rfl)) (hd : (x == ("__debug__" : Str)) = false := by decide) (hcd : (x == ("__classdict__" : Str)) = false := by decide)
    (hbase : attributeBase (.Name x np) name X.env (eval (.Name x np) X.env) = eval (.Name x np) X.env := by rfl)
    (hfew : ((backTo cpos (starEach (e :: es) X.env)).all (fun x => !x.1) && (backToKw cpos (keywordEach [] X.env)).all (fun x => x.1.isSome)
      && decide ((e :: es).length + ([] : List Keyword).length + (if ([] : List Keyword).isEmpty then 0 else 1) < 30)) = true := by rfl)
    (hline : (apos.endLine == cpos.line) = true := by rfl) (hs : starEach (e :: es) X.env = (false, eval e X.env) :: starEach es X.env := by rfl) (hplain : (backTo cpos (starEach es X.env)).any (·.1) = false := by rfl) :
    LE X pv W (.Call (.Attribute (.Name x np) name apos) (e :: es) [] cpos) (dMeth dct i f ds) :=
  weakE (pe_bm pa slot hty hm (jk0 (pos := np) (W := W) i hN hv hd hcd) ha hbase hfew hline hs hplain) fun σ H Q ⟨M, F, ρ, S, q⟩ => by
    refine ⟨M, F, ρ, S, ?_⟩
    unfold dMeth at q
    by_cases c : atK dct i [] ρ = true
    · rw [if_pos c] at q
      unfold pName
      cases e1 : rVar i ρ with
      | none => unfold atK at c; rw [e1] at c; cases c
      | some t =>
        intro v0 v H' M' F' g1 g2 g3 g4
        cases g2
        refine ⟨atK_ty c g3 g1 (.nil _), ?_⟩
        refine (stepA (k := fun ts ρ1 => jbp i f [] ts ρ1) (P := VQ X.K X.mg pv σ H M F W Q) (fv := []) .nil g3 g3.nd (by simpa using g4) exQ (fun z => z) q).mono fun vs H2 ⟨ts, ρ2, M2, fv2, F2, b1, b2, b3, b4, b5⟩ => ?_
        exact finM op b2 g1 (.nil _) b1 b3 b4 b5
    · rw [if_neg c] at q; exact q.elim
def jcy (dct : Bool) (i : Nat) (f : T → List T → Option (T × T)) (p : Da) (rs : List Dr) : De := fun ρ => (p ρ).bind fun x => if atK dct i x.1 x.2 = true then (match rs.mapM (fun r => r x.2) with
  | some ts => if frs ts = true then jbp i f x.1 ts x.2 else .bad
  | none => .bad) else .bad
theorem rb_reps : ∀ {vs : List V} {ts : List T}, RB K H M vs ts → frs ts = true → Reps K H M [] vs ts
  | _, _, .nil, _ => .nil
  | _, _, .cons r rs, h => by
    rw [frs, Bool.and_eq_true] at h
    exact .cons (fp := []) (reps0' r h.1) (rb_reps rs h.2)
theorem l_methR {rs : List Dr} (pa : PlainAttrs (tyN dct)) (slot : Slot (tyN dct) name id) (hty : typeOf (.builtin id) = pure (.type "method_descriptor")) (hm : MtR X id rr) (op : MOp X.K rr f) (h : PP X pv W o i p) (ha : RA X pv (e :: es) rs)
    (hbase : attributeBase o name X.env (eval o X.env) = eval o X.env := by rfl)
    (hfew : ((backTo cpos (starEach (e :: es) X.env)).all (fun x => !x.1) && (backToKw cpos (keywordEach [] X.env)).all (fun x => x.1.isSome)
      && decide ((e :: es).length + ([] : List Keyword).length + (if ([] : List Keyword).isEmpty then 0 else 1) < 30)) = true := by rfl)
    (hline : (apos.endLine == cpos.line) = true := by rfl) (hs : starEach (e :: es) X.env = (false, eval e X.env) :: starEach es X.env := by rfl) (hplain : (backTo cpos (starEach es X.env)).any (·.1) = false := by rfl) :
    LE X pv W (.Call (.Attribute o name apos) (e :: es) [] cpos) (jcy dct i f p rs) :=
  weakE (pe_bm pa slot hty hm h ha.run hbase hfew hline hs hplain) fun σ H Q ⟨M, F, ρ, S, q⟩ => by
    refine ⟨M, F, ρ, S, ?_⟩
    unfold jcy at q
    cases e2 : p ρ with
    | bad => rw [e2] at q; exact q
    | ex x ρ' => rw [e2] at q; exact q
    | ok x =>
      rw [e2] at q
      simp only [R.bind] at q
      intro v0 v H' M' F' g1 g2 g3 g4
      by_cases c : atK dct i x.1 x.2 = true
      · rw [if_pos c] at q
        refine ⟨atK_ty c g3 g1 g2, M', F', x.2, g3, ?_⟩
        cases e3 : rs.mapM (fun r => r x.2) with
        | none => rw [e3] at q; exact q.elim
        | some ts =>
          rw [e3] at q
          by_cases c2 : frs ts = true
          · simp only [if_pos c2] at q
            exact ⟨ts, rfl, fun vs rb => finM (fv := []) op g3 g1 g2 (rb_reps rb c2) (by simpa using g3.nd) (by simpa using g4) q⟩
          · simp only [if_neg c2] at q; exact q.elim
      · rw [if_neg c] at q; exact q.elim
theorem St1.frm {v y : V} {t k u : T} (r : Rep K H M fp v t) (e : at1 t k = some u) (s : St1 H v k y) {H' : Hp} {M' : MS} (f : Frm H M F H' M') (o : Own H M F) (d : ∀ a ∈ fp, a ∉ F) : St1 H' v k y := by
  obtain ⟨a, rfl, s⟩ := s
  by_cases hk : ∃ c n m, k = .ins false c [n, m] []
  · obtain ⟨c, n, m, rfl⟩ := hk
    rcases s with ⟨_, _, _, g, _⟩ | ⟨_, k', _, g, _⟩ | ⟨_, _, _, g, _⟩ | ⟨_, _, _, _, _, g, _⟩ | ⟨_, _, _, _, rfl⟩
    · cases g
    · cases k' <;> cases g
    · cases g
    · cases g
    · exact ⟨a, rfl, .inr (.inr (.inr (.inr ⟨c, n, m, rfl, rfl⟩)))⟩
  have keep : H' a = H a := by
    cases r with
    | mrk _ _ =>
      obtain ⟨rfl, c', n', m', rfl⟩ := at1_mk e
      exact (hk ⟨_, _, _, rfl⟩).elim
    | tup h rs => rw [h]; exact f.keep _ _ h fun ha => jkr (o _ ha).2 (.inl h)
    | lstO h m rs => rw [h]; exact f.keep _ _ h (d _ List.mem_cons_self)
    | dKO h m rs => rw [h]; exact f.keep _ _ h (d _ List.mem_cons_self)
    | dTO h m rs => rw [h]; exact f.keep _ _ h (d _ List.mem_cons_self)
    | insO _ h m rs => rw [h]; exact f.keep _ _ h (d _ List.mem_cons_self)
    | _ => simp [at1] at e
  refine ⟨a, rfl, ?_⟩
  rw [keep]
  exact s
theorem AtV.frm : ∀ {ps : List T} {fp : List Addr} {v y : V} {t u : T}, Rep K H M fp v t → pathT t ps = some u → AtV H v ps y → ∀ {H' : Hp} {M' : MS} {F : List Addr}, Frm H M F H' M' → Own H M F → (∀ a ∈ fp, a ∉ F) → AtV H' v ps y
  | [], _, _, _, _, _, _, _, a, _, _, _, _, _, _ => by cases a; exact .nil _
  | k :: ps, fp, v, y, t, u, r, e, a, H', M', F, f, o, d => by
    cases a with
    | cons s a =>
      obtain ⟨c, c1, c2⟩ := Option.bind_eq_some_iff.mp e
      obtain ⟨fq, rest, h1, h2, h3⟩ := r.focus1 c1 s
      exact .cons (s.frm r c1 f o d) (a.frm h1 c2 f o fun b hb => d b (h2.mem_iff.mpr (List.mem_append_left _ hb)))
def jfd (i : Nat) (ρ : Env) : Bool := match ρ[i]? with
  | some none => true
  | _ => false
def jdk (dct : Bool) (i : Nat) (f : T → List T → Option (T × T)) (p ds : Da) : De := fun ρ => (p ρ).bind fun x => if atK dct i x.1 x.2 = true then (match rVar i x.2 with
  | some t => (ds (x.2.set i none)).bind fun y => if jfd i y.2 = true then jbp i f x.1 y.1 (y.2.set i (some t)) else .bad
  | none => .bad) else .bad
end
end
end Q
namespace Q
open PySem PySem.Spec PyProof.Rows L2
variable [tbI : Tbl]
include tbI
section
variable {X : Cx} {pv : Pins} {W : WX} {e a b o : Expr} {es : List Expr} {pos apos : Pos} {d da db : De} {r s : Dr} {ds p : Da} {i : Nat}
variable {K : PySem.W.Frag} {mg : Str → Option Value} {H H1 H2 : Hp} {M M1 M2 : MS} {F F1 F2 G fv fp : List Addr} {σ : Sg} {ρ ρ1 : Env} {vs : List V} {ts : List T}
def rSetO : TSet := fun o i v H Q => rSetL o i v H Q ∨ ∃ a, o = .ref a ∧
  ((∃ kvs k, H a = some (.dK kvs) ∧ i = kV k ∧ kvs.length < sizeLine ∧ ((kvs.map Prod.fst).Nodup → Q (upd H a (.dK (putK kvs k v))))) ∨
   ∃ kvs k b, H a = some (.dT kvs) ∧ i = .ref b ∧ H b = some (.tup (k.map kV)) ∧ kvs.length < sizeLine ∧ ((kvs.map Prod.fst).Nodup → Q (upd H a (.dT (putK kvs k v)))))
theorem dK_nodup {pins : List (Addr × Obj)} {s : Shared} {a : Addr} {kvs : List (Key × V)} (I : Inv X pins σ H s) (e : H a = some (.dK kvs)) : (kvs.map Prod.fst).Nodup := by
  obtain ⟨_, _, vs, rel, _, _, _, _, _, _, _, _, n⟩ := dk_of I.hok e
  have := rel.keys
  rw [show kvs.map Prod.fst = vs.map (·.1) from this]
  exact n
theorem dT_nodup {pins : List (Addr × Obj)} {s : Shared} {a : Addr} {kvs : List (List Key × V)} (I : Inv X pins σ H s) (e : H a = some (.dT kvs)) : (kvs.map Prod.fst).Nodup := by
  obtain ⟨_, _, xs, rel, d⟩ := dt_of I.hok e
  obtain ⟨_, _, _, _, _, _, _, _, n⟩ := d
  have hk : ∀ {kvs : List (List Key × V)} {xs : List (List Key × Addr × Value)}, L2.KT H kvs xs → kvs.map Prod.fst = xs.map (·.1) := by
    intro kvs xs r
    unfold L2.KT at r
    induction r with
    | nil => rfl
    | cons h _ ih => rw [List.map_cons, List.map_cons, ih, h.1]
  rw [hk rel]
  exact n
theorem set_all (hu : X.A.units + 1 < cLine) : PSet X rSetO := by
  intro pins s σ H o i v ov iv u Q I ro ri rv h
  rcases h with h | ⟨a, rfl, ⟨kvs, k, e, rfl, l, q⟩ | ⟨kvs, k, b, e, rfl, eb, l, q⟩⟩
  · exact set_list pins s σ H o i v ov iv u Q I ro ri rv h
  · exact set_dict hu pins s σ H _ _ v ov iv u Q I ro ri rv ⟨a, _, rfl, .k e l, q (dK_nodup I e)⟩
  · exact set_dict hu pins s σ H _ _ v ov iv u Q I ro ri rv ⟨a, _, rfl, .t e eb l, q (dT_nodup I e)⟩
theorem repl_id {κ : Type} [DecidableEq κ] {v : V} {k : κ} : ∀ {kvs : List (κ × V)}, k ∉ kvs.map Prod.fst → kvs.map (fun kv => if kv.1 = k then (kv.1, v) else kv) = kvs
  | [], _ => rfl
  | p :: r, h => by
    rw [List.map_cons] at h ⊢
    rw [repl_id fun z => h (List.mem_cons_of_mem _ z), if_neg (fun z : p.1 = k => h (by rw [z]; exact List.mem_cons_self))]
theorem jix {κ : Type} [DecidableEq κ] {f : κ → T} (hf : ∀ a b : κ, (f a).beq (f b) = decide (a = b)) {k : κ} {v : V} : ∀ {kvs : List (κ × V)}, (kvs.map Prod.fst).Nodup →
    (posOf (kvs.map fun kv => f kv.1) (f k) = none ∧ putK kvs k v = kvs ++ [(k, v)]) ∨
    ∃ j, posOf (kvs.map fun kv => f kv.1) (f k) = some j ∧ j < kvs.length ∧ (putK kvs k v).map Prod.snd = (kvs.map Prod.snd).set j v ∧ (putK kvs k v).map (fun kv => f kv.1) = kvs.map fun kv => f kv.1
  | [], _ => .inl ⟨rfl, rfl⟩
  | p :: r, n => by
    rw [List.map_cons] at n
    obtain ⟨n1, n2⟩ := List.nodup_cons.mp n
    by_cases e : p.1 = k
    · subst e
      have : putK (p :: r) p.1 v = (p.1, v) :: r := by
        unfold putK
        rw [if_pos (by simp), List.map_cons, if_pos rfl, repl_id n1]
      exact .inr ⟨0, by simp [posOf, hf], by simp, by rw [this]; rfl, by rw [this]; rfl⟩
    · have hp : posOf ((p :: r).map fun kv => f kv.1) (f k) = (posOf (r.map fun kv => f kv.1) (f k)).map (· + 1) := by simp [posOf, hf, e]
      have hk : putK (p :: r) k v = p :: putK r k v := by
        unfold putK
        rw [List.any_cons]
        simp only [e, decide_false, Bool.false_or, List.map_cons, if_false]
        split <;> rfl
      rcases jix hf (k := k) (v := v) n2 with ⟨g1, g2⟩ | ⟨j, g1, g2, g3, g4⟩
      · exact .inl ⟨by rw [hp, g1]; rfl, by rw [hk, g2]; rfl⟩
      · exact .inr ⟨j + 1, by rw [hp, g1]; rfl, by simp; omega, by rw [hk]; simp [g3], by rw [hk]; simp [g4]⟩
theorem Reps.setN {v : V} {t : T} (rv : Rep K H M fv v t) : ∀ {fp : List Addr} {vs : List V} {ts : List T} {j : Nat}, Reps K H M fp vs ts → j < ts.length → (fp ++ fv).Nodup → ∃ fq, Reps K H M fq (vs.set j v) (ts.set j t) ∧ fq.Nodup ∧ ∀ a ∈ fq, a ∈ fp ++ fv
  | _, _, _, _, .nil, h, _ => by simp at h
  | _, _, _, 0, .cons (fp := f1) (fq := f2) r rs, _, n => by
    have p : ((f1 ++ f2) ++ fv).Perm (f1 ++ (fv ++ f2)) := by
      rw [List.append_assoc]
      exact List.Perm.append_left f1 List.perm_append_comm
    refine ⟨fv ++ f2, .cons rv rs, ((List.nodup_append.mp (jks p n)).2.1), fun a h => p.mem_iff.mpr (List.mem_append_right _ h)⟩
  | _, _, _, j + 1, .cons (fp := f1) (fq := f2) r rs, h, n => by
    rw [List.append_assoc] at n
    obtain ⟨n1, n2, n3⟩ := List.nodup_append.mp n
    obtain ⟨fq, g1, g2, g3⟩ := Reps.setN rv rs (by simpa using h) n2
    refine ⟨f1 ++ fq, .cons r g1, List.nodup_append.mpr ⟨n1, g2, fun a ha b hb => n3 a ha b (g3 b hb)⟩, fun a h => ?_⟩
    rw [List.append_assoc]
    rcases List.mem_append.mp h with z | z
    · exact List.mem_append_left _ z
    · exact List.mem_append_right _ (g3 a z)
def put2 (v : T) : T → T → Option T
  | .lst true xs, .int i => (ixN xs.length i).map fun j => .lst true (xs.set j v)
  | .dic true tk ks vs, k => if (keyOk tk k && decide (ks.length < 4000)) = true then (match posOf ks k with
    | some j => some (.dic true tk ks (vs.set j v))
    | none => some (.dic true tk (ks ++ [k]) (vs ++ [v]))) else none
  | _, _ => none
theorem ixN_lt {n : Nat} {i : Int} {j : Nat} (h : ixN n i = some j) : j < n := (ixN_seq h).2.1
theorem own1 {a : Addr} {u : HO} (e : H a = some u) (m : M a) (h : Mut (some u)) : Own H M [a] := fun b hb => by
  rw [List.mem_singleton] at hb
  subst hb
  exact ⟨m, by rw [e]; exact h⟩
theorem put_ok {y kv v : V} {u k t u' : T} {fq fk : List Addr} {Q : Hp → Prop} (ru : Rep K H M fq y u) (rk : Rep K H M fk kv k) (rv : Rep K H M fv v t) (n : (fq ++ fv).Nodup) (e : put2 t u k = some u')
    (q : ∀ H' fr, Rep K H' M fr y u' → fr.Nodup → Stp H M (fq ++ fv) H' M fr → Q H') : rSetO y kv v H Q := by
  have go : ∀ {a : Addr} {f0 fn : List Addr} {w w' : HO}, H a = some w → M a → Mut (some w) → Mut (some w') → ((a :: f0) ++ fv).Nodup → (∀ b ∈ fn, b ∈ f0 ++ fv) → fn.Nodup →
      (∀ b ∈ fn, b ∉ [a]) ∧ (a :: fn).Nodup ∧ Stp H M ((a :: f0) ++ fv) (upd H a w') M (a :: fn) := fun {a f0 fn w w'} ea m mw mw' n h nf => by
    have na := List.nodup_cons.mp (show (a :: (f0 ++ fv)).Nodup from n)
    refine ⟨fun b hb z => na.1 ((List.mem_singleton.mp z) ▸ h b hb), List.nodup_cons.mpr ⟨fun z => na.1 (h a z), nf⟩, ⟨(Stp.wide ⟨jhd ea m, fun b hb => .inl hb⟩ (fun b hb => ?_)).frm, fun b hb => ?_⟩⟩
    · rw [List.mem_singleton] at hb
      subst hb
      exact List.mem_append_left _ List.mem_cons_self
    · rcases List.mem_cons.mp hb with z | z
      · subst z; exact .inl (List.mem_append_left _ List.mem_cons_self)
      · exact .inl (List.mem_cons_of_mem _ (h b z))
  unfold put2 at e
  split at e
  · rename_i xs i
    obtain ⟨j, hj, rfl⟩ := Option.map_eq_some_iff.mp e
    obtain ⟨rfl, _⟩ := je7 rk
    cases ru with
    | @lstO a ws f0 _ h m rs =>
      obtain ⟨fn, g1, g2, g3⟩ := Reps.setN rv rs (ixN_lt hj) (List.nodup_cons.mp (show (a :: (f0 ++ fv)).Nodup from n)).2
      obtain ⟨k1, k2, k3⟩ := go (w' := .lst (ws.set j v)) h m trivial trivial n g3 g2
      refine .inl ⟨a, ws, i, j, rfl, rfl, h, by rw [rs.length]; exact hj, q _ (a :: fn) (.lstO upd_same m ?_) k2 k3⟩
      exact g1.frm (jhd h m) (own1 h m trivial) k1
  · rename_i tk ks us k
    split at e
    · rename_i c
      rw [Bool.and_eq_true, decide_eq_true_eq] at c
      cases ru with
      | @dKO a kvs f0 us h m rs =>
        obtain ⟨k', rfl, rfl⟩ := jhp rk c.1
        refine .inr ⟨a, rfl, .inl ⟨kvs, k', h, rfl, Nat.lt_of_lt_of_le (by simpa using c.2) (jgd (Nat.le_refl _)), fun nk => ?_⟩⟩
        rcases jix (f := keyT) jj5 (k := k') (v := v) nk with ⟨p1, p2⟩ | ⟨j, p1, p2, p3, p4⟩
        · rw [p1] at e
          cases e
          have g1 := rs.app (Reps.one rv)
          obtain ⟨k1, k2, k3⟩ := go (w' := .dK (putK kvs k' v)) h m trivial trivial n (fun b hb => hb) (List.nodup_cons.mp (show (a :: (f0 ++ fv)).Nodup from n)).2
          have r2 : Rep K (upd H a (.dK (putK kvs k' v))) M (a :: (f0 ++ fv)) (.ref a) (.dic true false ((putK kvs k' v).map fun kv => keyT kv.1) _) := .dKO upd_same m (by
            rw [p2, List.map_append]
            exact (g1.frm (jhd h m) (own1 h m trivial) k1))
          rw [p2, List.map_append] at r2
          exact q _ _ (by rw [p2]; exact r2) k2 k3
        · rw [p1] at e
          cases e
          obtain ⟨fn, g1, g2, g3⟩ := Reps.setN (j := j) rv rs (by rw [← rs.length, List.length_map]; exact p2) (List.nodup_cons.mp (show (a :: (f0 ++ fv)).Nodup from n)).2
          obtain ⟨k1, k2, k3⟩ := go (w' := .dK (putK kvs k' v)) h m trivial trivial n g3 g2
          have r2 : Rep K (upd H a (.dK (putK kvs k' v))) M (a :: fn) (.ref a) (.dic true false ((putK kvs k' v).map fun kv => keyT kv.1) _) := .dKO upd_same m (by
            rw [p3]
            exact (g1.frm (jhd h m) (own1 h m trivial) k1))
          rw [p4] at r2
          exact q _ _ r2 k2 k3
      | @dTO a kvs f0 us h m rs =>
        obtain ⟨k', b, rfl, rfl, hb⟩ := jhp rk c.1
        refine .inr ⟨a, rfl, .inr ⟨kvs, k', b, h, rfl, hb, Nat.lt_of_lt_of_le (by simpa using c.2) (jgd (Nat.le_refl _)), fun nk => ?_⟩⟩
        rcases jix (f := fun z : List Key => T.tup (z.map keyT)) (fun a b => by rw [T.beq]; exact jii a b) (k := k') (v := v) nk with ⟨p1, p2⟩ | ⟨j, p1, p2, p3, p4⟩
        · rw [p1] at e
          cases e
          have g1 := rs.app (Reps.one rv)
          obtain ⟨k1, k2, k3⟩ := go (w' := .dT (putK kvs k' v)) h m trivial trivial n (fun b hb => hb) (List.nodup_cons.mp (show (a :: (f0 ++ fv)).Nodup from n)).2
          have r2 : Rep K (upd H a (.dT (putK kvs k' v))) M (a :: (f0 ++ fv)) (.ref a) (.dic true true ((putK kvs k' v).map fun kv => T.tup (kv.1.map keyT)) _) := .dTO upd_same m (by
            rw [p2, List.map_append]
            exact (g1.frm (jhd h m) (own1 h m trivial) k1))
          rw [p2, List.map_append] at r2
          exact q _ _ (by rw [p2]; exact r2) k2 k3
        · rw [p1] at e
          cases e
          obtain ⟨fn, g1, g2, g3⟩ := Reps.setN (j := j) rv rs (by rw [← rs.length, List.length_map]; exact p2) (List.nodup_cons.mp (show (a :: (f0 ++ fv)).Nodup from n)).2
          obtain ⟨k1, k2, k3⟩ := go (w' := .dT (putK kvs k' v)) h m trivial trivial n g3 g2
          have r2 : Rep K (upd H a (.dT (putK kvs k' v))) M (a :: fn) (.ref a) (.dic true true ((putK kvs k' v).map fun kv => T.tup (kv.1.map keyT)) _) := .dTO upd_same m (by
            rw [p3]
            exact (g1.frm (jhd h m) (own1 h m trivial) k1))
          rw [p4] at r2
          exact q _ _ r2 k2 k3
    · cases e
  · cases e
def upPut (i : Nat) (ps : List T) (k v : T) (ρ : Env) : Option Env := (rVar i ρ).bind fun t => (pathT t ps).bind fun u => (put2 v u k).bind fun u' => (putP u' t ps).map fun t' => ρ.set i (some t')
theorem finP {v0 y kv v : V} {k t : T} {fk : List Addr} {ps : List T} {ρ' : Env} {Q : Sg → Hp → Prop} (S1 : Sta X.K pv H1 M1 F1 σ ρ1) (eσ : σ[i]? = some (some v0)) (at_ : AtV H1 v0 ps y)
    (rk : Rep X.K H1 M1 fk kv k) (rv : Rep X.K H1 M1 fv v t) (nd : (fv ++ F1).Nodup) (st : Stp H M F H1 M1 (fv ++ F1)) (e : upPut i ps k t ρ1 = some ρ') (q : ∀ H' M' F', Sta X.K pv H' M' F' σ ρ' → Stp H M F H' M' F' → Q σ H') : rSetO y kv v H1 fun H3 => Q σ H3 := by
  obtain ⟨t0, e1, e⟩ := Option.bind_eq_some_iff.mp e
  obtain ⟨u, e2, e⟩ := Option.bind_eq_some_iff.mp e
  obtain ⟨u', e3, e⟩ := Option.bind_eq_some_iff.mp e
  obtain ⟨t', e4, rfl⟩ := Option.map_eq_some_iff.mp e
  obtain ⟨fq, g1, g2, g3⟩ := slot_op S1 e1 eσ at_ e2 rv.own nd
  refine put_ok g1 rk rv g2 e3 fun H' fr r' n' s => ?_
  obtain ⟨t2, F', k1, k2, k3, k4⟩ := g3 (fr := []) r' (by simpa using n') (by simpa using s)
  rw [e4] at k1; cases k1
  exact q H' M1 F' k2 (st.trans0 (by simpa using k4))
def gPut (i : Nat) (p : Da) (r : Dr) : T → Env → Option Env := fun v ρ => match p ρ with
  | .ok x => (r x.2).bind fun k => upPut i x.1 k v x.2
  | _ => none
theorem lg_sub (hu : X.A.units + 1 < cLine) (h : PP X pv W o i p) (hr : RE X pv b r)
    (ha : ∀ v, assign (.Subscript o b pos) X.env v = (do
      let ov ← holding [v] (eval o X.env)
      let iv ← holding [v, ov] (eval b X.env)
      standAt pos
      holding [v, ov, iv] (setItem ov iv v)
      release [v, ov, iv] []) := by intro _; rfl) : LG X pv (.Subscript o b pos) (gPut i p r) :=
  weakG (pg_sub h hr (set_all hu) ha) fun v σ H Q ⟨M, F, ρ, t, fv, S, rv, n, ρ', e, q⟩ => by
    refine ⟨M, F, ρ, S, ?_⟩
    unfold gPut at e
    cases e2 : p ρ with
    | bad => rw [e2] at e; cases e
    | ex x ρ' => rw [e2] at e; cases e
    | ok x =>
      rw [e2] at e
      simp only at e
      intro v0 y H' M' F' g1 g2 g3 g4
      obtain ⟨k, ek, e⟩ := Option.bind_eq_some_iff.mp e
      have rv2 := rv.frm g4.frm S.rep.own (fun a h h' => (List.nodup_append.mp n).2.2 a h a h' rfl)
      obtain ⟨_, dj⟩ := (Reps.one rv).hold S.rep.own n g4
      have n2 : (fv ++ F').Nodup := List.nodup_append.mpr ⟨(List.nodup_append.mp n).1, g3.nd, fun a ha b hb z => dj a ha (z ▸ hb)⟩
      refine ⟨M', F', x.2, g3, k, ek, fun kv fk rk => finP (H := H) (M := M) (F := fv ++ F) g3 g1 g2 rk rv2 n2 ⟨(g4.wide fun a ha => List.mem_append_right _ ha).frm, fun a ha => ?_⟩ e fun H' M' F' s st => q σ H' M' F' s st⟩
      rcases List.mem_append.mp ha with z | z
      · exact .inl (List.mem_append_left _ z)
      · exact (g4.new a z).imp (List.mem_append_right _) (fun z => z)
def gPut0 (i : Nat) (d : De) : T → Env → Option Env := fun v ρ => (rVar i ρ).bind fun _ => match d ρ with
  | .ok x => if x.1.fr = true then upPut i [] x.1 v x.2 else none
  | _ => none
end
end Q
namespace Q
open PySem PySem.Spec PyProof.Rows L2
variable [tbI : Tbl]
include tbI
section
variable {X : Cx} {pv : Pins} {W : WX} {tg iter e a b o : Expr} {es : List Expr} {pos apos : Pos} {d da db : De} {r s : Dr} {ds p : Da} {i : Nat}
variable {K : PySem.W.Frag} {mg : Str → Option Value} {H H1 H2 : Hp} {M M1 M2 : MS} {F F1 F2 G fv fp : List Addr} {σ : Sg} {ρ ρ1 : Env} {vs : List V} {ts : List T}
def jge (z : Str) : List T := z.cps.toList.map fun c => .str ⟨#[c]⟩
def iStrT (d : De) : Da := fun ρ => (d ρ).bind fun x => match x.1 with | .str z => .ok (jge z, x.2) | _ => .bad
theorem wkt_str {z : Str} : WkT K (Its z) H M F (jge z) :=
  jm3 walk_str (by simp [jge]) (fun _ _ _ => trivial) fun i H1 M1 v H2 hi f y => by
    obtain ⟨rfl, c, e, rfl⟩ := y
    refine ⟨.str ⟨#[c]⟩, ?_, .str _, .refl⟩
    unfold jge
    rw [List.getElem?_map, Array.getElem?_toList, e]
    rfl
theorem li_str (h : LE X pv W iter d) : LI X pv W tg iter (iStrT d) :=
  weakI (pi_str h) fun σ H Q ⟨M, F, ρ, S, q⟩ => by
    refine ⟨M, F, ρ, S, ?_⟩
    unfold iStrT at q
    cases e : d ρ with
    | bad => rw [e] at q; exact q
    | ex x ρ' => rw [e] at q; exact q
    | ok x =>
      rw [e] at q
      obtain ⟨t, ρ1⟩ := x
      simp only [R.bind] at q
      intro v H' M' fv F' h1 h2 h3 h4
      cases t with
      | str z =>
        obtain ⟨rfl, rfl⟩ := jdp h1
        exact ⟨z, rfl, q (Its z) H' M' F' wkt_str h2 (by simpa using h4)⟩
      | _ => exact q.elim
def dIx0 (i : Nat) (d : De) : De := fun ρ => match rVar i ρ with
  | none => .bad
  | some _ => (d ρ).bind fun x => match rVar i x.2 with
    | some t => (match fIx [t, x.1] with
      | some u => if u.fr = true then .ok (u, x.2) else .bad
      | none => .bad)
    | none => .bad
theorem l_ix0 (i : Nat) {x : Str} {np : Pos} (hu : X.A.units + 1 < cLine) (h : LE X pv W b d) (hp : PlainIx b := by exact fun _ _ => rfl) (hN : X.N[i]? = some x := by rfl) (hv : Vis X.env.scope x := by first | exact Or.inl rfl | exact Or.inr (Or.inl rfl) | exact Or.inr (Or.inr rfl)) (hd : (x == ("__debug__" : Str)) = false := by decide)
    (hcd : (x == ("__classdict__" : Str)) = false := by decide) : LE X pv W (.Subscript (.Name x np) b pos) (dIx0 i d) := weakE (pe_ix (jb2 hu) (pe_var hN hv hd hcd) h hp) fun σ H Q ⟨M, F, ρ, S, q⟩ => by
  unfold dIx0 at q
  cases e : rVar i ρ with
  | none => rw [e] at q; exact q.elim
  | some t =>
    rw [e] at q
    obtain ⟨v, fp, h1, h2, _⟩ := S.rep.get (je5 e)
    refine ⟨v, h1, M, F, ρ, S, ?_⟩
    simp only at q
    cases e2 : d ρ with
    | bad => rw [e2] at q; exact q
    | ex x ρ' => rw [e2] at q; exact fun cls d H' M' F' a b c => q cls d H' M' F' a b c
    | ok x =>
      rw [e2] at q
      simp only [R.bind] at q
      intro kv H' M' fv F' g1 g2 g3 g4
      cases e3 : rVar i x.2 with
      | none => rw [e3] at q; exact q.elim
      | some t2 =>
        rw [e3] at q
        simp only at q
        cases e4 : fIx [t2, x.1] with
        | none => rw [e4] at q; exact q.elim
        | some u =>
          rw [e4] at q
          simp only at q
          split at q
          · rename_i cf
            obtain ⟨v2, fp2, k1, k2, _⟩ := g2.rep.get (je5 e3)
            rw [h1] at k1; cases k1
            refine o_ix H' M' [v, kv] [t2, x.1] u Q (.cons k2 (.cons g1 .nil)) e4 fun w fw rw_ => ?_
            have z := rw_.fpNil cf
            subst z
            exact q w H' M' [] F' rw_ g2 (by simpa using g2.nd) (by simpa using g4.sub fun a ha => List.mem_append_right _ ha)
          · exact q.elim
def jde : T → List T → Option (T × T)
  | .lst true xs, [v] => if xs.length < 4000 then some (.non, .lst true (xs ++ [v])) else none
  | _, _ => none
theorem jj9 : MOp K rAppend jde := fun H M fq y u fw vs ts res u' Q ru rs n e q => by
  unfold jde at e
  split at e
  · rename_i xs v
    split at e
    · rename_i c
      cases e
      cases ru with
      | @lstO a ws f0 _ h m r0 =>
        cases rs with
        | @cons fv f2 w _ vs0 ts0 rv r2 =>
          cases r2
          rw [List.append_nil] at n q
          have na := List.nodup_cons.mp (show (a :: (f0 ++ fv)).Nodup from n)
          refine ⟨a, ws, w, rfl, rfl, h, Nat.lt_of_lt_of_le (by rw [r0.length]; exact c) (jgd (Nat.le_refl _)), ?_⟩
          have g1 := (r0.app (Reps.one rv)).frm (jhd (u := .lst (ws ++ [w])) h m) (own1 h m trivial) fun b hb z => na.1 ((List.mem_singleton.mp z) ▸ hb)
          refine q .non _ M [] (a :: (f0 ++ fv)) .non (.lstO upd_same m g1) (by simpa using n) ⟨(Stp.wide (G := [a]) ⟨jhd h m, fun b hb => .inl hb⟩ fun b hb => ?_).frm, fun b hb => .inl (by simpa using hb)⟩
          rw [List.mem_singleton] at hb
          subst hb
          exact List.mem_append_left _ List.mem_cons_self
    · cases e
  · cases e
end
end Q
namespace Q
open PySem PySem.Spec PyProof.Rows L2
variable [tbI : Tbl]
include tbI
structure Cal (P : Program) (w : World) (K : PySem.W.Frag) (mg : Str → Option Value) (base : Heap) (k : Nat) (x : Str) (ps : List Str) (ino : List Nat) (f : FD) : Prop where
  ex : ∃ a fd, FnQ P w K mg base k a fd ps ino f ∧ mg x = some (.ref a) ∧ PySem.W.keepIn K (.ref a) = true ∧ Binds K fd ps []
section
variable {X : Cx} {pv : Pins} {W : WX} {e a b o : Expr} {es : List Expr} {pos apos : Pos} {d da db : De} {r s : Dr} {ds p : Da} {i : Nat} {lk : List (Option Nat)}
theorem jae {x : Str} {p pos : Pos} {k k' : Nat} {f : FD} {ps : List Str} {ino : List Nat} (c : Cal X.prog X.w X.K X.mg X.base k x ps ino f) (hr : Rm k' X.A) (tk : Takes X W)
    (ha : LL X pv W (e :: es) lk ds) (hle : k ≤ k' := by decide) (hla : lk.length = ps.length := by rfl) (hg : Gl X x := by rfl) (hdb : (x == ("__debug__" : Str)) = false := by decide) (he : starEach (e :: es) X.env = (false, eval e X.env) :: starEach es X.env := by rfl) (hpl : (backTo pos (starEach es X.env)).any (·.1) = false := by rfl) :
    LE X pv W (.Call (.Name x p) (e :: es) [] pos) (dCall f ino lk ds) := by
  obtain ⟨a, fd, h1, h2, h3, h4⟩ := c.ex
  exact l_call (n := 0) h1 (hr.less hle) h2 h3 h4 tk ha hla hg hdb he hpl
theorem u1 {k : Nat} {A : Around} (r : Rm k A) : A.units + 1 < cLine := by have := r.un; omega
theorem u66 {k : Nat} {A : Around} (r : Rm k A) : A.units + 66 < cLine := by have := r.un; omega
theorem jgf : bootBuiltins "len" = some (.builtin "len") := by decide +kernel
theorem bb_abs : bootBuiltins "abs" = some (.builtin "abs") := by decide +kernel
theorem bb_all : bootBuiltins "all" = some (.builtin "all") := by decide +kernel
theorem bb_list : bootBuiltins "list" = some (.type "list") := by decide +kernel
theorem jhr : bootBuiltins "tuple" = some (.type "tuple") := by decide +kernel
theorem jlp : bootBuiltins "int" = some (.type "int") := by decide +kernel
theorem jk1 : bootBuiltins "str" = some (.type "str") := by decide +kernel
theorem jij : ∀ (t : T) (us : List T) (u : T), fJoin (t :: us) = some u → ∃ z, t = .str z := fun t us u h => by
  unfold fJoin at h
  split at h
  · rename_i e; cases e; exact ⟨_, rfl⟩
  · rename_i e; cases e; exact ⟨_, rfl⟩
  · cases h
theorem jmk {f : List T → Option T} (h : ∀ (t : T) (us : List T) (u : T), f (t :: us) = some u → ∃ z, t = .str z) : ∀ (t : T) (us : List T) (u : T), fro f (t :: us) = some u → ∃ z, t = .str z := fun t us u e => h t us u (jnh e).1
theorem jg1 {is ino : List Nat} {vs : List V} (h : (is.all fun i => !ino.contains i) = true) : ∀ i ∈ is, Pin ino vs i = none := fun i hi => by
  have := List.all_eq_true.mp h i hi
  unfold Pin
  rw [if_neg]
  intro z
  rw [z] at this
  cases this
theorem jml {K : PySem.W.Frag} {mg : Str → Option Value} {x : Str} {i : Int} {t : Tok} (h : mg x = some (.int i t)) : Glo K mg x (.int i) := ⟨⟨_, .int i, h, ⟨t, rfl⟩, fun _ _ => .int i⟩⟩
theorem glo_str {K : PySem.W.Frag} {mg : Str → Option Value} {x : Str} {i : Str} {t : Tok} (h : mg x = some (.str i t)) : Glo K mg x (.str i) := ⟨⟨_, .str i, h, ⟨t, rfl⟩, fun _ _ => .str i⟩⟩
end
def spLaw (K : PySem.W.Frag) : Sp := fun vs H Q _ => ∃ (a : Addr) (ns : List Int), jkq K H (fun _ => False) ∧ vs = [.ref a] ∧ SqL K H a (ns.map V.int) ∧ ns.length ≤ 63 ∧ ∀ H', Q (.bl true) H'
def Keeps (f : FD) : Prop := ∀ ns : List Int, ns.length ≤ 63 → f [.lst false (ns.map .int)] = .ok (.bl true) []
theorem jiy {K : PySem.W.Frag} {H : Hp} {M : MS} : ∀ ns : List Int, Reps K H M [] (ns.map V.int) (ns.map T.int)
  | [] => .nil
  | n :: ns => .cons (fp := []) (.int n) (jiy ns)
theorem law_imp {K : PySem.W.Frag} {mg : Str → Option Value} {f : FD} (h : Keeps f) : ∀ vs H Q E, spLaw K vs H Q E → spQ K mg 1 [] f vs H Q E := fun vs H Q E ⟨a, ns, tb, e, hS, hl, q⟩ => by
  subst e
  refine ⟨rfl, fun _ => False, [], [.lst false (ns.map .int)], tb, ?_, .nil, ?_⟩
  · rcases hS with hS | hS
    · exact .cons (fp := []) (.lstF hS (fun z => z) (jiy ns)) .nil
    · exact .cons (fp := []) (.lstK hS (jiy ns)) .nil
  · rw [h ns hl]
    intro v H' M' fv fo ws _ r _ _ _
    rw [(jhb r).1]
    exact q H'
theorem no_CX {P : Program} {w : World} {H : Hp} {s : Shared} {e : Value} {s' : Shared} (h : L2.CX P w [] H s (fun _ _ _ => False) e s') : False := by
  obtain ⟨_, _, _, _, _, _, _, _, _, _, _, _, z⟩ := h
  exact z
open Classical in
noncomputable def hp0 (a : Addr) (u : Option HO) : Hp := fun b => if b = a then u else if (∃ q, Tbl.L b q) then some (.tbl #[]) else none
theorem law_end {P : Program} {w : World} {K : PySem.W.Frag} {mg mb : Str → Option Value} {k : Nat} {fa a : Addr} {fd : FuncData} {x : Str} {s1 : Shared} {vs : List Value} {ns : List Int}
    (kin : K.In s1.heap) (glb : s1.heap.Ns mainGlobals mg) (bns : s1.heap.Ns builtinsNs mb) (bbs : ∀ x : Str, x ≠ "__name__" → mb x = bootBuiltins x) (nlim : s1.heap.NoLimit) (gens : s1.gens = #[])
    (lkn : ∀ b q, Tbl.L b q → K.lookup b = none) (tabs2 : ∀ b q, Tbl.L b q → s1.heap.get? b = some { cls := .none, data := .fields #[] } ∧ isCodeTable s1.heap b)
    (bmod : ∃ (bm : Addr) (ob : Obj), mg "__builtins__" = some (.ref bm) ∧ bm ≠ builtinsNs ∧ s1.heap.get? bm = some ob ∧ ob.cls = .type "module" ∧ ob.dict = some builtinsNs ∧ ob.data = .plain)
    (obj : s1.heap.get? a = some { cls := .type "list", data := .seq vs.toArray }) (iar : IntsAre vs ns) (short : ns.length ≤ 63) (room : Room k callerA)
    (F : ∀ base : Heap, K.In base → base.Ns mainGlobals mg → LB mg base → FnG P w K mg base k fa fd [x] (spLaw K)) (bind : ∀ (s : Shared) (u : Value), BindsTo s fd ⟨[u], []⟩ [(x, u)]) :
    codeAny (model P w) callerA (.call (.ref fa) ⟨[.ref a], []⟩) (fun r s2 => r = .ok (.ret (.bool true)) ∧ OldK s1.heap s2.heap ∧ s2.os = s1.os ∧ AllBare s2.gens) s1 := by
  have vals := vals_ints iar
  have size : vs.length = ns.length := iar.length
  have tabs : ∀ b q, Tbl.L b q → s1.heap.get? b = some { cls := .none, data := .fields #[] } := fun b q z => (tabs2 b q z).1
  have aT : ∀ q, ¬ Tbl.L a q := fun q z => by
    have e := tabs a q z
    rw [obj] at e
    exact nomatch (show Data.seq vs.toArray _ = Data.fields #[] from congrArg Obj.data (Option.some.inj e))
  have main : ∀ u0 : Option HO, (∀ u, u0 = some u → K.lookup a = none ∧ ∃ o xs, u = .frz o (.lst xs)) → SqL K (hp0 a u0) a (ns.map V.int) → HOk P w (hp0 a u0) s1.heap →
      codeAny (model P w) callerA (.call (.ref fa) ⟨[.ref a], []⟩) (fun r s2 => r = .ok (.ret (.bool true)) ∧ OldK s1.heap s2.heap ∧ s2.os = s1.os ∧ AllBare s2.gens) s1 := by
    intro u0 h0 seq hok
    obtain ⟨H, hH⟩ : ∃ H, H = hp0 a u0 := ⟨_, rfl⟩
    have only : ∀ b u, H b = some u → (b = a ∧ K.lookup a = none ∧ ∃ o xs, u = .frz o (.lst xs)) ∨ ∃ q, Tbl.L b q ∧ u = .tbl #[] := fun b u e => by
      rw [hH] at e
      unfold hp0 at e
      split at e
      · rename_i z
        obtain ⟨z1, z2⟩ := h0 u e
        exact .inl ⟨z, z1, z2⟩
      · split at e
        · rename_i z
          obtain ⟨q, z⟩ := z
          cases e
          exact .inr ⟨q, z, rfl⟩
        · cases e
    have tbl : ∀ b q, Tbl.L b q → H b = some (.tbl #[]) := fun b q z => by
      rw [hH]
      unfold hp0
      have na : ¬ b = a := fun e => aT q (by rw [← e]; exact z)
      rw [if_neg na, if_pos ⟨q, z⟩]
    rw [← hH] at seq hok
    clear hH
    have free : ∀ {b : Addr} {o : Obj}, K.lookup b = some o → H b = none := fun {b o} h => by
      cases q : H b with
      | none => rfl
      | some u =>
        rcases only b u q with ⟨rfl, z, _⟩ | ⟨q', z, _⟩
        · rw [h] at z; cases z
        · rw [lkn _ _ z] at h; cases h
    have other : ∀ {b : Addr} {o : Obj}, s1.heap.get? b = some o → (∀ vs n, o.data ≠ .seq vs n) → o.data ≠ .fields #[] → H b = none := fun {b o} e h1 h2 => by
      cases q : H b with
      | none => rfl
      | some u =>
        rcases only b u q with ⟨rfl, _, _⟩ | ⟨q', z, _⟩
        · rw [obj] at e; cases e
          exact (h1 _ _ rfl).elim
        · rw [tabs _ _ z] at e; cases e
          exact (h2 rfl).elim
    have nss : ∀ {b : Addr} {m : Str → Option Value}, s1.heap.Ns b m → (hidT s1.heap H).Ns b m := by
      rintro b m ⟨o, es, ep, e, d, r⟩
      exact ⟨o, es, ep, hidT_get e (other e (fun vs n z => by rw [d] at z; cases z) fun z => by rw [d] at z; cases z), d, r⟩
    have kinB : K.In (hidT s1.heap H) := fun b o e => hidT_get (kin b o e) (free e)
    have lb : LB mg (hidT s1.heap H) := fun b q z => by
      have hT := tabs b q z
      refine ⟨?_, fun y => ?_⟩
      · obtain ⟨bm, ob, b1, b2, b3, b4, b5, b6⟩ := bmod
        have nG : bm ≠ mainGlobals := fun y => by
          obtain ⟨o, es, ep, e, hd, _⟩ := glb
          rw [y, e] at b3
          cases b3
          rw [hd] at b6
          cases b6
        have nP : bm ≠ b := fun y => by
          rw [y, hT] at b3
          cases b3
          cases b6
        exact ⟨bm, ob, b1, b2, nG, nP, hidT_get b3 (other b3 (fun vs n y => by rw [b6] at y; cases y) fun y => by rw [b6] at y; cases y), b4, b5, b6⟩
      · obtain ⟨o, es, ep, e, hd, _⟩ := glb
        rw [y, hT] at e
        cases e
        cases hd
    have envs : Env0 P w K mg (hidT s1.heap H) callerA [] s1 H :=
      { frames := rfl
        mod := ⟨kinB, nss glb, ⟨mb, nss bns, bbs⟩, let ⟨m, h1, h2⟩ := nlim; ⟨m, nss h1, h2⟩⟩
        bs := fun b o e => of_hidT e
        bsz := Nat.le_of_eq (hidT_size _ _)
        funs := trivial
        frf := fun b z => by have z' : b ∈ ([] : List Addr) := z; cases z'
        hok := hok
        bare := .of_eq gens }
    have tok : jkq K H (fun _ => False) := fun b q z => ⟨#[], tbl b q z, trivial, fun y => y, fun pos cv hc => by
      have z : codeAmong pos [] = some cv := hc
      simp [codeAmong] at z⟩
    refine codeAny_mono ((F _ kinB (nss glb) lb).goes callerA [] s1 H ⟨[.ref a], []⟩ [.ref a] [.ref a] (fun v _ => v = .bl true) (fun _ _ _ => False) ⟨room, rfl⟩ envs (bind s1 (.ref a)) (.cons rfl .nil) ⟨a, ns, tok, rfl, seq, short, fun _ => rfl⟩) fun res s2 fin => ?_
    match res, fin with
    | .error e, fin => exact (no_CX fin).elim
    | .ok (.ret u), ⟨v, H2, os, bare, un, hok2, rv, (q : v = .bl true)⟩ =>
      subst q
      have ru : u = Value.bool true := rv
      subst ru
      refine ⟨rfl, ⟨fun b o e => ?_, fun b o e => ?_⟩, os, bare⟩
      · cases q : H b with
        | none => exact .inl (un.keep b o e q (fun z => by have z' : b ∈ ([] : List Addr) := z; cases z') (fun z => by cases z))
        | some u =>
          rcases only b u q with ⟨_, _, ob, xs, rfl⟩ | ⟨q', z, rfl⟩
          · have e1 := (hok b _ q).1
            have e2 := (hok2 b _ (un.frzs b ob _ q)).1
            rw [e] at e1
            cases e1
            exact .inl e2
          · obtain ⟨more, z2⟩ := un.tbls b #[] q
            have hm : s2.heap.get? b = some { cls := .none, data := .fields (#[] ++ more) } := hok2 b _ z2
            rw [tabs b q' z] at e
            cases e
            exact .inr (.inl ⟨(tabs2 b q' z).2, rfl, #[], more, rfl, hm⟩)
      · cases q : H b with
        | none => exact ⟨o, un.keep b o e q (fun z => by have z' : b ∈ ([] : List Addr) := z; cases z') (fun z => by cases z)⟩
        | some u =>
          rcases only b u q with ⟨_, _, ob, xs, rfl⟩ | ⟨q', z, rfl⟩
          · exact ⟨_, (hok2 b _ (un.frzs b ob _ q)).1⟩
          · obtain ⟨more, z2⟩ := un.tbls b #[] q
            have hm : s2.heap.get? b = some { cls := .none, data := .fields (#[] ++ more) } := hok2 b _ z2
            exact ⟨_, hm⟩
  have tabOk : ∀ (u0 : Option HO) b q, Tbl.L b q → ObjOk P w (hp0 a u0) s1.heap b (.tbl #[]) := fun u0 b q z => tabs b q z
  cases look : K.lookup a with
  | some o =>
    have e := kin a o look
    rw [obj] at e
    cases e
    refine main none (fun u z => nomatch z) (.inr ⟨_, vs.toArray, _, look, rfl, rfl, rfl, by rw [List.size_toArray, size]; exact Nat.le_trans short (by decide), by simpa using vals⟩) fun b u z => ?_
    unfold hp0 at z
    split at z
    · cases z
    · split at z
      · rename_i y
        obtain ⟨q, y⟩ := y
        cases z
        exact tabOk _ b q y
      · cases z
  | none =>
    refine main (some (.frz { cls := .type "list", data := .seq vs.toArray } (.lst (ns.map V.int)))) (fun u z => ⟨look, _, _, (Option.some.inj z).symm⟩) (.inl (.inr ⟨{ cls := .type "list", data := .seq vs.toArray }, if_pos rfl⟩)) fun b u z => ?_
    unfold hp0 at z
    split at z
    · rename_i y
      subst y
      cases z
      exact ⟨obj, by rw [List.length_map]; exact Nat.le_trans short (by decide), vs, _, vals, obj⟩
    · split at z
      · rename_i y
        obtain ⟨q, y⟩ := y
        cases z
        exact tabOk _ b q y
      · cases z
theorem lr_nil {R : List Str} {K : PySem.W.Frag} : ∀ x ∈ ([] : List Str), x ∈ R ∨ PySem.W.nsIn K mainGlobals x = some none := fun _ h => nomatch h
theorem jee {R L : List Str} {K : PySem.W.Frag} {y : Str} (h : y ∈ R ∨ PySem.W.nsIn K mainGlobals y = some none) (r : ∀ x ∈ L, x ∈ R ∨ PySem.W.nsIn K mainGlobals x = some none) : ∀ x ∈ y :: L, x ∈ R ∨ PySem.W.nsIn K mainGlobals x = some none := fun x hx => by
  rcases List.mem_cons.mp hx with rfl | hx
  · exact h
  · exact r x hx
theorem walk_g {l : PySem.W.OpenLaw} {k : Nat} {q : Program} {loose : List Str} {XP : (Str → Option Value) → Heap → Prop} {YP : World → Heap → Prop} {d : DefRec} {K : Params → PySem.W.Frag} {x : Str} (R : List Str)
    (most : l.most = some 63) (plain : d.params.defaults = []) (room : Room k callerA) (hR : ∀ x ∈ R, ((recsOf q).any fun e => e.name == x) = true) (kin : ∀ (w : World) (h : Heap), YP w h → (K w.params).In h)
    (F : ∀ (w : World) (mg : Str → Option Value) (fa : Addr) (h : Heap), (K w.params).In h → h.Ns mainGlobals mg → mg d.name = some (.ref fa) →
      (∀ x ∈ jjx, x ∈ R ∨ PySem.W.nsIn (K w.params) mainGlobals x = some none) ∧
      ∃ (TB : Tbl), (∀ P q, TB.L P q → LamTab (K w.params) P q) ∧ ∃ fd : FuncData, (∀ (s : Shared) (u : Value), BindsTo s fd ⟨[u], []⟩ [(x, u)]) ∧ ∀ base : Heap, (K w.params).In base → base.Ns mainGlobals mg → @LB TB mg base → FnG l.prog w (K w.params) mg base k fa fd [x] (@spLaw TB (K w.params))) :
    PySem.W.WalkO q loose XP YP l.row.toRowW d [] (fun f vs => PySem.call f vs) :=
  Att.attach_call most plain fun w _ s1 mg _ fa _ _ _ _ a vs ns G Y _ _ _ at_ obj iar short gens => by
    have KX := kin w s1.heap Y
    obtain ⟨hl, TB, hTB, fd, bind, run⟩ := F w mg fa s1.heap KX G.T.g at_
    refine @law_end TB _ _ _ _ _ _ _ _ _ _ _ _ _ KX G.T.g G.T.b G.T.builtins G.T.nolimit gens (fun b q' h => (let ⟨_, _, _, _, z, _⟩ := hTB b q' h; z)) (fun b q' h => ?_) G.T.bmain obj iar short room run bind
    obtain ⟨x', hx, ⟨c, f, o1, fd1, e, dd, vs1, sl, k1, k2, k3, k4, k5, k6⟩, _, _, _⟩ := hTB b q' h
    have hin : x' ∈ R := by
      rcases hl x' hx with z | z
      · exact z
      · rw [z] at k1; cases k1
    obtain ⟨dL, hm, hn1⟩ := List.any_eq_true.mp (hR x' hin)
    have hn2 : dL.name = x' := beq_iff_eq.mp hn1
    obtain ⟨a', o', fd', c', P', h1, h2, h3, h4, h5, h6⟩ := G.T.tab dL hm
    rw [hn2, PySem.W.mg_of KX G.T.g k1] at h1
    cases h1
    have g1 := KX _ _ k2
    rw [g1] at h2
    cases h2
    rw [k3] at h3
    cases h3
    rw [k4] at h4
    cases h4
    obtain ⟨⟨oc, vc, e1, ec, e3, e4⟩, hP⟩ := h6
    have ict : isCodeTable s1.heap P' := ⟨_, oc, vc, e1, ec, e3, e4⟩
    have g2 := KX _ _ k5
    rw [g2] at e1
    cases e1
    cases e3
    rw [k6] at e4
    cases e4
    exact ⟨hP, ict⟩
end Q
namespace Q
open PySem PySem.Spec PyProof.Rows L2
variable [tbI : Tbl]
include tbI
section
variable {prog : Program} {w : World} {A : Around} {E : Value → Shared → Prop} {s : Shared}
end
section
variable {X : Cx} {pv : Pins} {W : WX} {e : Expr} {d : De} {te : TE} {kz : Nat} {p1 p2 p3 pos : Pos} {K : PySem.W.Frag}
def fRev : List T → Option T
  | [.tup xs] => if frs xs = true then some (.tup xs.reverse) else none
  | [.lst _ xs] => if frs xs = true then some (.lst true xs.reverse) else none
  | _ => none
end
structure GloD (K : PySem.W.Frag) (w : World) (mg : Str → Option Value) (x : Str) (ks : List Str) (ts : List T) : Prop where
  ex : ∃ d es n, mg x = some (.ref d) ∧ KDict K w d es n ∧ ∀ z, match dGet (ks.map .str) ts (.str z) with
    | some t => ∃ u v, PySem.W.nsIn K d z = some (some u) ∧ RelV v u ∧ ∀ H M, Rep K H M [] v t
    | none => PySem.W.nsIn K d z = some none
section
variable {X : Cx} {pv : Pins} {W : WX} {e : Expr} {r : Dr} {pos : Pos}
def fKin (ks : List Str) : List T → Option T
  | [.str z] => some (.bl (dGet (ks.map .str) (ks.map fun _ => T.non) (.str z)).isSome)
  | _ => none
def fKix (ks : List Str) (ts : List T) : List T → Option T
  | [.str z] => dGet (ks.map .str) ts (.str z)
  | _ => none
end
end Q
namespace Q
open PySem PySem.Spec PyProof.Rows L2 PySem.W
variable [tbI : Tbl]
include tbI
def T.lt (a b : T) : Bool := dataLt a.toD b.toD
def T.le (a b : T) : Bool := !dataLt b.toD a.toD
def T.alk (a b : T) : Bool := alike a.toD b.toD
def T.ltOk (a b : T) : Bool := a.eqOk && b.eqOk && a.alk b && !a.isNon
def fOrd (p : Int → Int → Bool) (q : T → T → Bool) : List T → Option T
  | [.int i, .int j] => some (.bl (p i j))
  | [a, b] => if a.ltOk b = true then some (.bl (q a b)) else none
  | _ => none
abbrev fLtA := fOrd (fun i j => decide (i < j)) fun a b => a.lt b
section
variable {X : Cx} {K : PySem.W.Frag} {H : Hp} {M : MS} {vs : List V} {ts : List T}
abbrev rOrdD (K : PySem.W.Frag) (q : PyData → PyData → Bool) : R2 := fun x y H Q => ∃ d e, Dp K H x d ∧ Dp K H y e ∧ alike d e = true ∧ d ≠ .none ∧ d.depth ≤ 60 ∧ Q (.bl (q d e)) H
theorem ord_room {A : Around} {d e : PyData} (hu : A.units + 64 < cLine) (h : d.depth ≤ 60) : A.units + min d.depth e.depth < cLine := by
  have : min d.depth e.depth ≤ d.depth := Nat.min_le_left _ _
  omega
theorem op_ltD (hu : X.A.units + 64 < cLine) : OpR X (compareOp .Lt) (rOrdD X.K dataLt) := by
  rintro pins s σ H x y v u Q I rx ry ⟨d, e, hd, he, al, nn, dp, q⟩
  obtain ⟨as, r1⟩ := Dp.reads I d x v hd rx
  obtain ⟨bs, r2⟩ := Dp.reads I e y u he ry
  exact lt_data r1 r2 al nn (ord_room hu dp) ⟨.bl _, H, I, rfl, q⟩
abbrev rOrdA (K : PySem.W.Frag) (p : Int → Int → Bool) (q : PyData → PyData → Bool) : R2 := fun x y H Q => rI0 (fun i j => .bl (p i j)) x y H Q ∨ rOrdD K q x y H Q
theorem op_ltA (hu : X.A.units + 64 < cLine) : OpR X (compareOp .Lt) (rOrdA X.K (fun i j => decide (i < j)) dataLt) := op_lt.or (op_ltD hu)
theorem toD_non {a : T} (h : a.pl = true) (n : a.isNon = false) : a.toD ≠ .none := by
  cases a <;> simp_all [T.toD, T.isNon, T.pl]
theorem o_ord {p : Int → Int → Bool} {q : T → T → Bool} {g : PyData → PyData → Bool} (e : ∀ a b : T, q a b = g a.toD b.toD) : ROp K (r2L (rOrdA K p g)) (fOrd p q) := by
  intro H M vs ts t Q r eq k
  unfold fOrd at eq
  split at eq
  · rename_i i j
    cases eq
    rw [jiu r]
    exact .inl ⟨i, j, rfl, rfl, k _ [] (.bl _)⟩
  · rename_i a b _
    split at eq
    · rename_i ok
      cases eq
      obtain ⟨v, w, fp, fq, rfl, r1, r2⟩ := rb2 r
      simp only [T.ltOk, Bool.and_eq_true, Bool.not_eq_true'] at ok
      obtain ⟨⟨⟨h1, h2⟩, h3⟩, h4⟩ := ok
      obtain ⟨p1, d1⟩ := je8 h1
      obtain ⟨p2, _⟩ := je8 h2
      refine .inr ⟨a.toD, b.toD, r1.dp p1, r2.dp p2, h3, toD_non p1 h4, Nat.le_trans (jej a) d1, ?_⟩
      rw [← e]
      exact k _ [] (.bl _)
    · cases eq
  · cases eq
theorem o_lt : ROp K (r2L (rOrdA K (fun i j => decide (i < j)) dataLt)) fLtA := o_ord fun _ _ => rfl
def srtOk (xs : List T) : Bool := frs xs && decide (xs.length ≤ 4000) && xs.all T.eqOk && (xs.all fun a => xs.all fun b => a.alk b) && ((xs.all fun t => match t with | .tup (_ :: _) => true | _ => false) || xs.all fun t => match t with | .non => false | .tup _ => false | _ => true)
def jk2 : List T → Option T
  | [.lst _ xs] => if srtOk xs = true then some (.lst true (xs.mergeSort T.le)) else none
  | _ => none
abbrev jnu (K : PySem.W.Frag) : RV := fun vs H Q => ∃ (a : Addr) (ps : List (V × PyData)), vs = [.ref a] ∧ SqL K H a (ps.map Prod.fst) ∧ (∀ p ∈ ps, Dp K H p.1 p.2) ∧ AllAlike (ps.map Prod.snd) ∧ Sortable (ps.map Prod.snd) ∧ (∀ p ∈ ps, p.2.depth ≤ 60) ∧
  ∀ p, H p = none → Q (.ref p) (upd H p (.lst ((ps.mergeSort (dataLe false Prod.snd)).map Prod.fst)))
theorem jka {R : V × PyData → Prop} : ∀ {ps : List (V × PyData)} {us : List Value}, Vals (ps.map Prod.fst) us → (∀ p ∈ ps, R p) → EachIs (fun (u : Value) (b : V × PyData) => RelV b.1 u ∧ R b) us ps
  | [], _, .nil, _ => .nil
  | p :: ps, _, .cons r rs, h => .cons ⟨r, h p List.mem_cons_self⟩ (jka rs fun q hq => h q (List.mem_cons_of_mem _ hq))
theorem jkb {R : V × PyData → Prop} : ∀ {us : List Value} {ps : List (V × PyData)}, EachIs (fun (u : Value) (b : V × PyData) => RelV b.1 u ∧ R b) us ps → Vals (ps.map Prod.fst) us
  | _, _, .nil => .nil
  | _, _, .cons ⟨r, _⟩ e => .cons r (jkb e)
theorem jnv (hu : X.A.units + 66 < cLine) : CallR X (.builtin "sorted") (jnu X.K) := by
  rintro pins s σ H vs us Q I r ⟨a, ps, rfl, hs, hd, al, so, dp, q⟩
  obtain ⟨its, rv, pl, z⟩ := I.list hs
  rw [Vals.ref1 r]
  have e0 := jka rv hd
  have er : EachIs (fun (u : Value) (b : V × PyData) => ∃ as, Reads s.heap u b.2 as) its ps := e0.mono fun u b ⟨h1, h2⟩ => Dp.reads I b.2 b.1 u h2 h1
  rw [List.length_map] at z
  refine sorted_data (enc := Prod.snd) pl.isList e0 er al so z (fun b hb => by have := dp b hb; omega) fun out hl eo => ?_
  obtain ⟨ep, at_⟩ := PyProof.Rows.sortedAll_at s.heap its out.toArray
  exact ⟨.ref _, upd H (s.heap.objs.size + 1) (.lst ((ps.mergeSort (dataLe false Prod.snd)).map Prod.fst)), I.laid (t' := s.toks) (fun _ _ => PyProof.Rows.sortedAll_old) (Nat.le_succ _) ⟨by rw [List.length_map, List.length_mergeSort]; exact z, out, ep, jkb eo, at_⟩, rfl, q _ (I.hok.fresh (Nat.le_succ _))⟩
theorem jmm {xs : List T} (h : srtOk xs = true) : frs xs = true ∧ xs.length ≤ 4000 ∧ (∀ x ∈ xs, x.pl = true ∧ x.dep ≤ 60) ∧ AllAlike (xs.map T.toD) ∧ Sortable (xs.map T.toD) := by
  simp only [srtOk, Bool.and_eq_true, decide_eq_true_eq, List.all_eq_true, Bool.or_eq_true] at h
  obtain ⟨⟨⟨⟨h1, h2⟩, h3⟩, h4⟩, h5⟩ := h
  refine ⟨h1, h2, fun x hx => je8 (h3 x hx), fun d hd d' hd' => ?_, ?_⟩
  · obtain ⟨x, hx, rfl⟩ := List.mem_map.mp hd
    obtain ⟨y, hy, rfl⟩ := List.mem_map.mp hd'
    exact h4 x hx y hy
  · rcases h5 with h5 | h5
    · refine .inl fun d hd => ?_
      obtain ⟨x, hx, rfl⟩ := List.mem_map.mp hd
      have := h5 x hx
      split at this
      · rename_i y ys
        exact ⟨y.toD, toDs ys, by simp [T.toD, toDs]⟩
      · cases this
    · refine .inr fun d hd => ?_
      obtain ⟨x, hx, rfl⟩ := List.mem_map.mp hd
      have := h5 x hx
      have p := (je8 (h3 x hx)).1
      cases x <;> simp_all [T.toD, T.pl]
theorem jnw : ∀ {vs : List V} {ts : List T}, Reps K H M [] vs ts → frs ts = true → ∃ qs : List (V × T), vs = qs.map Prod.fst ∧ ts = qs.map Prod.snd ∧ ∀ q ∈ qs, Rep K H M [] q.1 q.2
  | [], [], _, _ => ⟨[], rfl, rfl, fun _ h => nomatch h⟩
  | [], _ :: _, r, _ => by have := r.length; simp at this
  | _ :: _, [], r, _ => by have := r.length; simp at this
  | v :: vs, t :: ts, r, h => by
    rw [frs, Bool.and_eq_true] at h
    generalize hF : ([] : List Addr) = F at r
    cases r with
    | cons r rs =>
      obtain ⟨h1, h2⟩ := List.append_eq_nil_iff.mp hF.symm
      subst h1; subst h2
      obtain ⟨qs, e1, e2, e3⟩ := jnw rs h.2
      refine ⟨(v, t) :: qs, by rw [e1]; rfl, by rw [e2]; rfl, fun q hq => ?_⟩
      rcases List.mem_cons.mp hq with z | z
      · subst z; exact r
      · exact e3 q z
theorem jiz : ∀ {qs : List (V × T)}, (∀ q ∈ qs, Rep K H M [] q.1 q.2) → Reps K H M [] (qs.map Prod.fst) (qs.map Prod.snd)
  | [], _ => .nil
  | q :: qs, h => .cons (fp := []) (h q List.mem_cons_self) (jiz fun x hx => h x (List.mem_cons_of_mem _ hx))
theorem jnx {qs : List (V × T)} : (qs.mergeSort fun a b => a.2.le b.2).map Prod.snd = (qs.map Prod.snd).mergeSort T.le := List.map_mergeSort fun _ _ _ _ => rfl
theorem jmn {qs : List (V × T)} : ((qs.map fun q => (q.1, q.2.toD)).mergeSort (dataLe false Prod.snd)).map Prod.fst = (qs.mergeSort fun a b => a.2.le b.2).map Prod.fst := by
  rw [← List.map_mergeSort (r := fun (a b : V × T) => a.2.le b.2) (s := dataLe false Prod.snd) (f := fun q : V × T => (q.1, q.2.toD)) (fun a _ b _ => by rw [dataLe_eq]; rfl), List.map_map]
  rfl
theorem o_sorted : BOp K (jnu K) jk2 := by
  intro H M vs ts t Q rb e k
  unfold jk2 at e
  split at e
  · rename_i o xs
    split at e
    · rename_i ok
      cases e
      obtain ⟨h1, h2, h3, h4, h5⟩ := jmm ok
      obtain ⟨v, fp, rfl, r⟩ := rb1 rb
      obtain ⟨a, ys, fq, rfl, hs, rs⟩ := jfp r
      have rs0 := reps0 rs h1
      obtain ⟨qs, rfl, rfl, hq⟩ := jnw rs0 h1
      refine ⟨a, qs.map fun q => (q.1, q.2.toD), rfl, by rw [List.map_map]; exact hs, ?_, by rw [List.map_map]; rw [List.map_map] at h4; exact h4, by rw [List.map_map]; rw [List.map_map] at h5; exact h5, ?_, fun p hp => ?_⟩
      · intro p hp
        obtain ⟨q, hq', rfl⟩ := List.mem_map.mp hp
        exact (hq q hq').dp (h3 _ (List.mem_map_of_mem hq')).1
      · intro p hp
        obtain ⟨q, hq', rfl⟩ := List.mem_map.mp hp
        exact Nat.le_trans (jej _) (h3 _ (List.mem_map_of_mem hq')).2
      · rw [jmn]
        have rr := jiz (K := K) (H := H) (M := M) (qs := qs.mergeSort fun a b => a.2.le b.2) fun q hq' => hq q ((List.mergeSort_perm qs _).mem_iff.mp hq')
        rw [jnx] at rr
        obtain ⟨w1, w2, w3⟩ := jkw hp rr .nil
        exact k _ _ _ _ w1 w2 w3
    · cases e
  · cases e
def fRepr : List T → Option T
  | [t] => if t.eqOk = true ∧ t.toD.showable = true ∧ t.toD.shown.length ≤ sizeLine then some (.str t.toD.shown) else none
  | _ => none
abbrev rRepr (K : PySem.W.Frag) : RV := fun vs H Q => ∃ v d, vs = [v] ∧ Dp K H v d ∧ d.showable = true ∧ d.hasDict = false ∧ d.shown.length ≤ sizeLine ∧ d.depth ≤ 60 ∧ Q (.str d.shown) H
theorem jk3 (hg : X.A.guards = some []) (hu : X.A.units + 66 < cLine) : CallR X (.builtin "repr") (rRepr X.K) := by
  rintro pins s σ H vs us Q I r ⟨v, d, rfl, hd, sh, nd, sz, dp, q⟩
  cases r with
  | cons r rs =>
    cases rs
    obtain ⟨as, rd⟩ := Dp.reads I d v _ hd r
    have fin : ∀ (s2 : Shared) (h' : Heap) (u : Tok) (tk : Nat), s2 = { s with toks := s2.toks } → (∀ b o, s.heap.get? b = some o → h'.get? b = some o) → EP X pins σ Q (.str d.shown u) { s with heap := h', toks := tk } := fun s2 h' u tk _ k => ⟨.str d.shown, H, I.kept k, ⟨u, rfl⟩, q⟩
    cases rd with
    | none => exact PySem.P.repr_of_none (fin s s.heap _ _ rfl fun _ _ e => e)
    | bool b =>
      have := PySem.P.repr_of_bool (b := b) (prog := X.prog) (w := X.w) (A := X.A) (E := X.xe) (s := s) (Q := EP X pins σ Q)
      exact this (fin s s.heap _ _ rfl fun _ _ e => e)
    | int i t => exact PySem.P.repr_of_int (by simpa [PyData.showable] using sh) (fin s s.heap _ _ rfl fun _ _ e => e)
    | str x t => exact PySem.P.repr_of_str (fin s s.heap _ _ rfl fun _ _ e => e) (by simpa only [PyData.shown] using sz)
    | list h1 h2 h3 h4 => exact repr_of_reads' (.list h1 h2 h3 h4) sh (fun z => by rw [nd] at z; cases z) hg (by omega) (fun _ _ e => e) (fun h' u tk k => fin s h' u tk rfl k) sz
    | tuple h1 h2 h3 h4 => exact repr_of_reads' (.tuple h1 h2 h3 h4) sh (fun z => by rw [nd] at z; cases z) hg (by omega) (fun _ _ e => e) (fun h' u tk k => fin s h' u tk rfl k) sz
    | dict h1 h2 h3 h4 h5 => simp [PyData.hasDict] at nd
end
end Q
namespace Q
open PySem PySem.Spec PyProof.Rows L2 PySem.W PySem.Calls
variable [tbI : Tbl]
include tbI
mutual
theorem jji : ∀ a : T, a.toD.hasDict = false
  | .non => rfl
  | .bl _ => rfl
  | .int _ => rfl
  | .str _ => rfl
  | .tup xs => by rw [T.toD, PyData.hasDict]; exact jg4 xs
  | .lst _ xs => by rw [T.toD, PyData.hasDict]; exact jg4 xs
  | .con _ => rfl
  | .dic _ _ _ _ => rfl
  | .ins _ _ _ _ => rfl
theorem jg4 : ∀ a : List T, PyData.hasDictAll (toDs a) = false
  | [] => rfl
  | x :: xs => by rw [toDs, PyData.hasDictAll, jji x, jg4 xs]; rfl
end
theorem jny {K : PySem.W.Frag} : ROp K (rRepr K) fRepr := by
  intro H M vs ts t Q rb e k
  unfold fRepr at e
  split at e
  · rename_i a
    split at e
    · rename_i ok
      cases e
      obtain ⟨v, fp, rfl, r⟩ := rb1 rb
      obtain ⟨h1, h2⟩ := je8 ok.1
      exact ⟨v, _, rfl, r.dp h1, ok.2.1, jji a, ok.2.2, Nat.le_trans (jej a) h2, k _ [] (.str _)⟩
    · cases e
  · cases e
def jdl : Ds := fun _ => .bad
theorem ls_never {X : Cx} {pv : Pins} {W : WX} {st : Stmt} : LS X pv W st jdl := weakS ps_never fun D σ H ⟨M, F, ρ, S, q⟩ => q
def FD.val (f : FD) (x : T) : T := match f [x] with | .ok t _ => t | _ => .non
def FD.one (f : FD) (x : T) : Bool := match f [x] with | .ok _ [] => true | _ => false
section
variable {X : Cx} {pins : List (Addr × Obj)} {σ : L2.St} {H : Hp} {M : MS} {s : Shared}
structure Trn (X : Cx) (pins : List (Addr × Obj)) (σ : L2.St) (H : Hp) (M : MS) (s : Shared) (kt : T) (u : Value) (s3 : Shared) : Prop where
  ex : ∃ H3 M3 kv, Inv X pins σ H3 s3 ∧ Stp H M [] H3 M3 [] ∧ RelV kv u ∧ Rep X.K H3 M3 [] kv kt ∧ ∀ b o, s.heap.get? b = some o → H b = none → b ≠ X.env.locals → b ∉ X.fs → s3.heap.get? b = some o ∧ H3 b = none
end
end Q
namespace Q
open PySem PySem.Spec PyProof.Rows L2 PySem.W PySem.Calls
variable [tbI : Tbl]
include tbI
def BOpT (K : PySem.W.Frag) (r : RV) (f : List T → Option T) : Prop :=
  ∀ H M vs ts t Q, jkq K H M → RB K H M vs ts → f ts = some t → (∀ v H' M' fv, Rep K H' M' fv v t → fv.Nodup → Stp H M [] H' M' fv → Q v H') → r vs H Q
def VOpT (K : PySem.W.Frag) (r : RV) (f : List T → Option T) : Prop :=
  ∀ H M fw vs ts t Q, jkq K H M → Reps K H M fw vs ts → fw.Nodup → f ts = some t → (∀ v H' M' fv, Rep K H' M' fv v t → fv.Nodup → Stp H M fw H' M' fv → Q v H') → r vs H Q
theorem BOpT.v {K : PySem.W.Frag} {r : RV} {f : List T → Option T} (h : BOpT K r f) : VOpT K r f := fun H M fw vs ts t Q tb rs nd e q =>
  h H M vs ts t Q tb rs.rb e fun v H' M' fv a b c => q v H' M' fv a b (c.wide fun _ z => nomatch z)
section
variable {X : Cx} {pv : Pins} {W : WX} {H H1 : Hp} {M M1 : MS} {F F1 fv : List Addr} {σ : Sg} {ρ ρ1 : Env} {vs : List V} {ts : List T}
end
section
variable {X : Cx} {pv : Pins} {W : WX} {pins : List (Addr × Obj)} {σ : L2.St} {H : Hp} {M : MS} {s : Shared}
variable {e : Expr} {es : List Expr} {pos p p2 kp : Pos} {d : De}
end
end Q
namespace Q
open PySem
theorem jk4 : bootBuiltins "repr" = some (.builtin "repr") := by decide +kernel
theorem bb_sorted : bootBuiltins "sorted" = some (.builtin "sorted") := by decide +kernel
end Q
namespace Q
open PySem PySem.Spec PyProof.Rows L2
variable [tbI : Tbl]
include tbI
section
variable {X : Cx} {pv : Pins} {W : WX} {K : PySem.W.Frag} {mg : Str → Option Value} {H : Hp} {M : MS} {F : List Addr} {σ : Sg} {ρ : Env} {D : Ends} {x : Ds} {st : Stmt}
theorem Sta.frz (S : Sta K pv H M F σ ρ) {i : Nat} {t : T} (e : ρ[i]? = some (some t)) : ∃ M' F', Sta K pv H M' F' σ (ρ.set i (some t.fz)) ∧ Stp H M F H M' F' := by
  obtain ⟨v, fp, G, h1, h2, h3, h4, h5⟩ := S.take e
  have dj : ∀ a ∈ G, a ∉ fp := fun a h h' => (List.nodup_append.mp h4).2.2 a h' a h rfl
  have r1 : Rep K H (fun a => M a ∧ a ∉ fp) [] v t.fz := h2.freeze (fun a h => h.1) fun a ha h => h.2 ha
  have r2 : ERep K H (fun a => M a ∧ a ∉ fp) G σ (ρ.set i none) := h3.rep.less (fun a h => h.1) fun a ha => ⟨(h3.rep.own a ha).1, dj a ha⟩
  have hl : i < ρ.length := (List.getElem?_eq_some_iff.mp e).1
  obtain ⟨F', r3, p⟩ := r2.put (i := i) (v := v) (by rw [List.getElem?_set_self hl]) r1
  rw [jin h1, List.set_set] at r3
  have n3 : F'.Nodup := (p.nodup_iff).mpr (by simpa using h3.nd)
  refine ⟨_, F', ⟨r3, n3, S.pin⟩, ⟨fun a o e _ _ => e, fun a o e n => ?_, fun a o e => ⟨o, e⟩, fun P q _ t => t.less fun a z => z.1⟩, fun a ha => ?_⟩
  · have nf : a ∉ fp := fun z => by
      rcases h5.new a (List.mem_append_left _ z) with w | w
      · exact n w
      · rw [e] at w; cases w
    exact ⟨fun z => z.1, fun z => ⟨z, nf⟩⟩
  · have : a ∈ G := by simpa using p.mem_iff.mp (by simpa using ha)
    exact h5.new a (List.mem_append_right _ this)
def sFrz (i : Nat) (x : Ds) : Ds := fun ρ => match x ρ with
  | .nx ρ' => (match rVar i ρ' with | some t => .nx (ρ'.set i (some t.fz)) | none => .bad)
  | f => f
theorem ls_frz (i : Nat) (h : LS X pv W st x) : LS X pv W st (sFrz i x) := weakS h fun D σ H ⟨M, F, ρ, S, q⟩ => by
  refine ⟨M, F, ρ, S, ?_⟩
  unfold sFrz at q
  cases e : x ρ with
  | nx ρ' =>
    rw [e] at q
    dsimp only at q
    cases e2 : rVar i ρ' with
    | none => rw [e2] at q; exact q.elim
    | some t =>
      rw [e2] at q
      intro σ' H' M' F' S' st'
      obtain ⟨M2, F2, S2, st2⟩ := S'.frz (je5 e2)
      exact q σ' H' M2 F2 S2 (st'.trans0 st2)
  | bk ρ' => rw [e] at q; exact q
  | ct ρ' => rw [e] at q; exact q
  | rt t ρ' => rw [e] at q; exact q
  | ex z ρ' => rw [e] at q; exact q
  | bad => rw [e] at q; exact q
end
end Q
namespace Q
open PySem PySem.Spec PyProof.Rows L2
variable [tbI : Tbl]
include tbI
section
variable {X : Cx} {pv : Pins} {W : WX} {e : Expr} {pos p tpos : Pos} {elts : List Expr} {kk : Nat} {d : De}
variable {K : PySem.W.Frag} {H : Hp} {M : MS} {ts : List T}
def enumT : Nat → List T → List T
  | _, [] => []
  | n, t :: ts => .tup [.int (n : Int), t] :: enumT (n + 1) ts
def iEnum1 (d : De) : Da := fun ρ => (d ρ).bind fun x => match jeu x.1 with | some ts => .ok (enumT 0 ts, x.2) | none => .bad
end
end Q
namespace Q
open PySem PySem.Spec PyProof.Rows L2
variable [tbI : Tbl]
include tbI
def pairsT : List T → Option (List T × List T)
  | [] => some ([], [])
  | .tup [k, v] :: r => (pairsT r).map fun p => (k :: p.1, v :: p.2)
  | _ :: _ => none
def ndT : List T → Bool
  | [] => true
  | k :: ks => !(ks.any fun k2 => k.beq k2) && ndT ks
def fDict : List T → Option T
  | [.lst _ xs] => match pairsT xs with
    | some p => if (p.1.all T.leaf && ndT p.1 && decide (p.1.length ≤ 4000)) = true then some (.dic true false p.1 p.2) else none
    | none => none
  | [.dic _ false ks vs] => if frs vs = true then some (.dic true false ks vs) else none
  | _ => none
section
variable {X : Cx} {K : PySem.W.Frag} {H : Hp} {M : MS} {vs : List V} {ts : List T} {fp : List Addr}
end
end Q
namespace Q
open PySem PySem.Spec PyProof.Rows L2
variable [tbI : Tbl]
include tbI
def fGet2 : List T → Option T
  | [.dic _ tk ks us, k, x] => if keyOk tk k = true then some ((dGet ks us k).getD x) else none
  | _ => none
section
variable {X : Cx} {pv : Pins} {W : WX} {o e f : Expr} {apos cpos : Pos} {r s u : Dr}
theorem rop3_some {f : List T → Option T} {r s u : Dr} {ρ : Env} {t : T} (h : rOp3 f r s u ρ = some t) : ∃ a b c, r ρ = some a ∧ s ρ = some b ∧ u ρ = some c ∧ f [a, b, c] = some t := by
  unfold rOp3 at h
  split at h
  · rename_i a b c e1 e2 e3; exact ⟨a, b, c, e1, e2, e3, h⟩
  · cases h
end
end Q
namespace Q
open PySem PySem.Spec PyProof.Rows L2
variable [tbI : Tbl]
include tbI
section
variable {X : Cx} {pv : Pins} {W : WX} {e : Expr} {p p2 pos pos2 : Pos} {d : De}
end
end Q
namespace Q
open PySem PySem.Spec PyProof.Rows L2
variable [tbI : Tbl]
include tbI
def T.isDic : T → Bool
  | .dic _ _ _ _ => true
  | _ => false
def dGet2L (d e f : De) : De := fun ρ => (d ρ).bind fun a => if a.1.isDic = true then (e a.2).bind fun b => (f b.2).bind fun c => (match fro fGet2 [a.1, b.1, c.1] with | some t => .ok (t, c.2) | none => .bad : R (T × Env)) else .bad
section
variable {X : Cx} {pv : Pins} {W : WX} {o e f : Expr} {apos cpos : Pos} {d de df : De}
end
end Q
namespace Q
open PySem PySem.Spec PyProof.Rows L2
variable [tbI : Tbl]
include tbI
end Q
namespace Q
open PySem PySem.Spec PyProof.Rows L2 PySem.W PySem.Calls
variable [tbI : Tbl]
include tbI
section
variable {prog : Program} {w : World} {A : Around} {s : Shared}
end
section
variable {prog : Program} {w : World} {A : Around} {E : Value → Shared → Prop} {s : Shared} {β : Type} {vs : List Value} {bs : List β} {enc : β → PyData} {R : Value → β → Prop}
end
section
variable {X : Cx} {K : PySem.W.Frag} {H : Hp} {M : MS} {vs : List V} {ts : List T}
end
end Q
namespace Q
open PySem PySem.Spec PyProof.Rows L2
variable [tbI : Tbl]
include tbI
section
variable {K : PySem.W.Frag} {H : Hp} {M : MS}
end
end Q
namespace Q
open PySem PySem.Spec PyProof.Rows L2
variable [tbI : Tbl]
include tbI
section
variable {X : Cx} {pv : Pins} {W : WX} {tg iter elt c e : Expr} {es ifs : List Expr} {pos : Pos} {d : De} {t : Db} {ds : Da} {g : T → Env → Option Env} {scope : Scope} {own : List (Str × Nat)}
variable {K : PySem.W.Frag} {mg : Str → Option Value} {H H1 H2 : Hp} {M M1 M2 : MS} {F F1 F2 G fv fp : List Addr} {σ : Sg} {ρ ρ1 : Env} {ts : List T} {vs : List V}
def dCompO (i : Nat) (own : List Nat) (g : T → Env → Option Env) (t : Db) (d : De) : De := fun ρ => match rVar i ρ with
  | some (.lst true xs) => if frs xs = true then (cLoop own g t d xs [] (ρ.set i none)).bind fun y => (if jfd i y.2 = true then .ok (y.1, y.2.set i (some (.lst true xs))) else .bad : R (T × Env)) else .bad
  | _ => .bad
end
end Q
namespace Q
open PySem PySem.Spec PyProof.Rows L2
variable [tbI : Tbl]
include tbI
def backF (i : Nat) (t : T) : Fl → Fl
  | .nx ρ => if jfd i ρ = true then .nx (ρ.set i (some t)) else .bad
  | .rt u ρ => if jfd i ρ = true then .rt u (ρ.set i (some t)) else .bad
  | .ex x ρ => if jfd i ρ = true then .ex x (ρ.set i (some t)) else .bad
  | _ => .bad
def sForO (i : Nat) (g : T → Env → Option Env) (b : Ds) : Ds := fun ρ => match rVar i ρ with
  | some (.lst true xs) => if frs xs = true then backF i (.lst true xs) (fLoop g b xs (ρ.set i none)) else .bad
  | _ => .bad
section
variable {X : Cx} {pv : Pins} {W : WX} {tg : Expr} {sts : List Stmt} {pos : Pos} {x : Ds} {g : T → Env → Option Env}
variable {K : PySem.W.Frag} {mg : Str → Option Value} {H H1 H2 : Hp} {M M1 M2 : MS} {F F1 F2 G fv fp : List Addr} {σ σ2 : Sg} {ρ ρ1 y : Env} {ts : List T} {D : Ends}
end
section
variable {P : Program} {w : World} {K : PySem.W.Frag} {mg : Str → Option Value} {base : Heap}
end
end Q
namespace Q
open PySem PySem.Spec PyProof.Rows L2
variable [tbI : Tbl]
include tbI
def repS (a : Str) (n : Nat) : Str := ⟨(List.replicate n a.cps).foldl (· ++ ·) #[]⟩
abbrev rMulS : R2 := fun x y H Q => ∃ a k, x = .str a ∧ y = .int k ∧ 0 ≤ k ∧ k ≤ 1000 ∧ a.length ≤ 1000 ∧ Q (.str (repS a k.toNat)) H
theorem jnz (a : Str) : ∀ n : Nat, (repS a n).length = n * a.length := by
  intro n
  have key : ∀ (n : Nat) (acc : Array Nat), ((List.replicate n a.cps).foldl (· ++ ·) acc).size = acc.size + n * a.cps.size := by
    intro n
    induction n with
    | zero => intro acc; simp
    | succ n ih =>
      intro acc
      rw [List.replicate_succ, List.foldl_cons, ih, Array.size_append, Nat.succ_mul]
      omega
  have := key n #[]
  simpa [repS, Str.length] using this
theorem op_mulS {X : Cx} : OpR X (binaryOp .Mult) rMulS := by
  intro pins s σ H x y v u Q I rx ry h
  obtain ⟨a, k, rfl, rfl, h0, h1, hl, q⟩ := h
  obtain ⟨t, rfl⟩ := rx
  obtain ⟨t', rfl⟩ := ry
  have hm : ∀ z : Nat, z ≤ 1000 * 1000 → Builtin.Str.tooLong z = false := fun z hz => by
    unfold Builtin.Str.tooLong
    have : (1000 * 1000 : Nat) ≤ sizeLine := by decide
    exact decide_eq_false (by omega)
  have mk : k.toNat ≤ 1000 := by omega
  have lm : ∀ j : Nat, j ≤ 1000 → j * a.length ≤ 1000 * 1000 := fun j hj => Nat.mul_le_mul hj hl
  refine PySem.P.mul_str ?_ (fun hk _ => ?_) (fun _ _ => ?_) ?_
  · rw [decide_eq_false (by omega), decide_eq_false (by omega)]; rfl
  · have e : (a.length : Int) * k ≤ 2 ^ 63 - 1 := by
      have z := lm k.toNat mk
      have : ((k.toNat * a.length : Nat) : Int) = k.toNat * (a.length : Int) := by simp
      have kk : (k.toNat : Int) = k := by omega
      rw [kk] at this
      rw [Int.mul_comm, ← this]
      omega
    have := (Int.le_ediv_iff_mul_le (show (0 : Int) < k by omega)).mpr e
    omega
  · exact hm _ (by rw [Nat.mul_comm]; exact lm _ mk)
  · split
    · rename_i c
      have : k = 0 := by omega
      subst this
      exact ⟨Nat.zero_le _, ⟨.str _, H, I.tok _, ⟨_, rfl⟩, q⟩⟩
    · split
      · rename_i c
        have e : repS a k.toNat = a := by
          rw [Bool.or_eq_true] at c
          rcases c with c | c
          · have : k = 1 := by simpa using c
            subst this
            show (⟨#[] ++ a.cps⟩ : Str) = a
            simp
          · have z : (repS a k.toNat).length = 0 := by rw [jnz, show a.length = 0 by simpa using c, Nat.mul_zero]
            have z2 : a.length = 0 := by simpa using c
            have e1 : ∀ y : Str, y.length = 0 → y = ⟨#[]⟩ := fun y hy => by
              obtain ⟨c⟩ := y
              have : c.size = 0 := hy
              rw [Array.eq_empty_of_size_eq_zero this]
            rw [e1 _ z, e1 _ z2]
        rw [e] at q
        exact ⟨.str a, H, I, ⟨_, rfl⟩, q⟩
      · exact ⟨(by
          have := jnz a k.toNat
          have z := lm k.toNat mk
          rw [← this] at z
          have w : (1000 * 1000 : Nat) ≤ sizeLine := by decide
          exact Nat.le_trans z w), ⟨.str _, H, I.tok _, ⟨_, rfl⟩, q⟩⟩
def fMulT : List T → Option T
  | [.int i, .int j] => if (-(2 ^ 64) < i ∧ i < 2 ^ 64) ∨ (-(2 ^ 64) < j ∧ j < 2 ^ 64) then some (.int (i * j)) else none
  | [.str a, .int k] => if 0 ≤ k ∧ k ≤ 1000 ∧ a.length ≤ 1000 then some (.str (repS a k.toNat)) else none
  | _ => none
abbrev rMulT : R2 := fun x y H Q => rI CMul (fun i j => .int (i * j)) x y H Q ∨ rMulS x y H Q
theorem op_mulT {X : Cx} : OpR X (binaryOp .Mult) rMulT := OpR.or op_mul op_mulS
theorem o_mulT {K : PySem.W.Frag} : ROp K (r2L rMulT) fMulT := fun H M vs ts t Q r e q => by
  unfold fMulT at e
  split at e
  · split at e
    · rename_i c
      cases e
      rw [jiu r]
      exact .inl ⟨_, _, rfl, rfl, c, q _ [] (.int _)⟩
    · cases e
  · split at e
    · rename_i c
      cases e
      obtain ⟨v, w, fp, fq, rfl, r1, r2⟩ := rb2 r
      rw [(jdp r1).1, (je7 r2).1]
      exact .inr ⟨_, _, rfl, rfl, c.1, c.2.1, c.2.2, q _ [] (.str _)⟩
    · cases e
  · cases e
end Q
namespace Q
open PySem PySem.Spec PyProof.Rows L2
variable [tbI : Tbl]
include tbI
section
variable {K : PySem.W.Frag} {H : Hp} {M : MS}
end
end Q
namespace Q
open PySem PySem.Spec PyProof.Rows L2
variable [tbI : Tbl]
include tbI
def fStr : List T → Option T
  | [.str a] => some (.str a)
  | [.int i] => if i.natAbs.log2 < 1920 then some (.str (toString i)) else none
  | _ => none
theorem o_str {K : PySem.W.Frag} : ROp K (fun xs H Q => (∃ i, xs = [.int i] ∧ i.natAbs.log2 < 1920 ∧ Q (.str (toString i)) H) ∨ ∃ a, xs = [.str a] ∧ Q (.str a) H) fStr := fun H M vs ts t Q r e q => by
  unfold fStr at e
  split at e
  · cases e
    obtain ⟨v, fp, rfl, r1⟩ := rb1 r
    rw [(jdp r1).1]
    exact .inr ⟨_, rfl, q _ [] (.str _)⟩
  · split at e
    · rename_i c
      cases e
      obtain ⟨v, fp, rfl, r1⟩ := rb1 r
      rw [(je7 r1).1]
      exact .inl ⟨_, rfl, c, q _ [] (.str _)⟩
    · cases e
  · cases e
end Q
namespace Q
open PySem PySem.Spec PyProof.Rows L2 PySem.W PySem.Calls
variable [tbI : Tbl]
include tbI
def T.sc : T → Bool
  | .non => true
  | .bl _ => true
  | .int _ => true
  | .str _ => true
  | _ => false
section
variable {X : Cx} {pins : List (Addr × Obj)} {σ : L2.St} {H : Hp} {M : MS} {s : Shared}
theorem rd_keys {P : Program} {w : World} : ∀ {es : List DictEntry} {kvs : List (Key × Value)} {ks : List (Key × V)}, Pairs (mixKind P w) es kvs → KV ks kvs → ReadsAll s.heap (es.map (·.key)) ((ks.map fun kv => keyT kv.1).map T.toD) []
  | _, _, _, .nil, .nil => ReadsAll.nil
  | _, _, _, .cons (e := e) h1 h2 h3, .cons k ks => by
    refine ReadsAll.cons (as := []) (bs := []) ?_ (rd_keys h3 ks)
    obtain ⟨k1, k2⟩ := k
    have h1' : keyIs _ e.key = true := h1
    rw [← k1] at h1'
    show Reads s.heap e.key (keyT _).toD []
    rcases keyIs_shape h1' with ⟨i, t, e1, e2⟩ | ⟨x, t, e1, e2⟩
    · rw [e1, e2]; exact Reads.int i t
    · rw [e1, e2]; exact Reads.str x t
theorem rd_vals {P : Program} {w : World} : ∀ {es : List DictEntry} {kvs : List (Key × Value)} {ks : List (Key × V)}, Pairs (mixKind P w) es kvs → KV ks kvs → Vals (ks.map Prod.snd) (es.map (·.val))
  | _, _, _, .nil, .nil => .nil
  | _, _, _, .cons (e := e) h1 h2 h3, .cons k ks => by
    refine .cons ?_ (rd_vals h3 ks)
    obtain ⟨k1, k2⟩ := k
    show L2.RelV _ e.val
    rw [h2]
    exact k2
theorem je9 {h : Heap} : ∀ {us : List Value} {ds : List PyData} {as : List Addr}, ReadsAll h us ds as → us.length = ds.length
  | _, _, _, .nil => rfl
  | _, _, _, .cons _ r => by simp [je9 r]
end
end Q
namespace Q
open PySem PySem.Spec PyProof.Rows L2
variable [tbI : Tbl]
include tbI
def txtOf (e : Int × Value) : Str := match e.2 with
  | .str x _ => x
  | _ => Str.empty
def TxE (w : World) (e : Int × Value) : Prop := ∃ x tk, e.2 = Value.str x tk ∧ e.1 = hashStr w x
def TxSet (w : World) (h : Heap) (a : Addr) (S : Str → Bool) (n : Nat) : Prop :=
  ∃ o es ep t, h.get? a = some o ∧ o.ExactSet ∧ o.data = .set es ep t ∧ ((∀ e ∈ es.toList, TxE w e) ∧ (es.toList.map txtOf).Nodup ∧ ∀ k, S k = true ↔ k ∈ es.toList.map txtOf) ∧
    (es.size < scanBound ∧ t.fits es.size = true ∧ es.size = n) ∧ Ris t.place.toList ∧ (w.params.followText "set-order" = true ∨ t.led = true)
section
variable {P : Program} {w : World} {h h' : Heap} {a : Addr} {S : Str → Bool} {n : Nat}
theorem TxSet.at (R : TxSet w h a S n) (k : ∀ o, h.get? a = some o → h'.get? a = some o) : TxSet w h' a S n :=
  let ⟨o, es, ep, t, ho, r⟩ := R
  ⟨o, es, ep, t, k o ho, r⟩
theorem TxSet.same {S' : Str → Bool} (R : TxSet w h a S n) (e : ∀ k, S' k = S k) : TxSet w h a S' n := (funext e : S' = S) ▸ R
end
section
variable {P : Program} {w : World} {A : Around} {E : Value → Shared → Prop} {s : Shared} {a : Addr} {S : Str → Bool} {n : Nat}
end
end Q
set_option maxHeartbeats 4000000
namespace Q
open PySem PySem.Spec PyProof.Rows L2
variable [tbI : Tbl]
include tbI
section
variable {P : Program} {w : World} {A : Around} {E : Value → Shared → Prop} {s : Shared}
end
end Q
namespace Q
open PySem PySem.Spec PyProof.Rows L2 PySem.W PySem.Calls
variable [tbI : Tbl]
include tbI
section
variable {P : Program} {w : World} {A : Around} {E : Value → Shared → Prop} {s : Shared} {a : Addr} {S : Str → Bool} {n : Nat}
end
end Q
namespace Q
open PySem PySem.Spec PyProof.Rows L2 PySem.W PySem.Calls
variable [tbI : Tbl]
include tbI
section
variable {X : Cx}
end
end Q
namespace Q
open PySem PySem.Spec PyProof.Rows L2 PySem.W PySem.Calls
variable [tbI : Tbl]
include tbI
theorem bb_set : bootBuiltins "set" = some (.type "set") := by decide +kernel
section
variable {X : Cx} {pv : Pins} {W : WX} {e : Expr} {p p2 pos pos2 : Pos} {r : Dr}
end
end Q
namespace Q
open PySem PySem.Spec PyProof.Rows L2 PySem.W
variable [tbI : Tbl]
include tbI
section
variable {X : Cx} {o : Expr} {td : TE} {apos mpos : Pos}
end
end Q
namespace Q
open PySem PySem.Spec PyProof.Rows L2 PySem.W
variable [tbI : Tbl]
include tbI
section
variable {X : Cx} {pv : Pins} {W : WX} {e : Expr} {p apos mpos pos : Pos} {r : Dr}
end
end Q
namespace Q
open PySem PySem.Spec PyProof.Rows L2 PySem.W
variable [tbI : Tbl]
include tbI
section
variable {X : Cx} {k v : Expr} {tk tv : TE} {pos : Pos}
end
end Q
namespace Q
open PySem PySem.Spec PyProof.Rows L2 PySem.W
variable [tbI : Tbl]
include tbI
section
variable {X : Cx} {pv : Pins} {W : WX} {k v : Expr} {rk rv : Dr} {pos : Pos}
end
end Q
namespace Q
open PySem PySem.Spec PyProof.Rows L2
variable [tbI : Tbl]
include tbI
section
variable {K : PySem.W.Frag} {H : Hp} {M : MS}
end
end Q
namespace Q
open PySem PySem.Spec PyProof.Rows L2
variable [tbI : Tbl]
include tbI
section
variable {K : PySem.W.Frag} {H : Hp} {M : MS}
end
end Q
namespace Q
open PySem PySem.Spec PyProof.Rows L2
variable [tbI : Tbl]
include tbI
def sRaise (c : Str) : Ds := fun ρ => .ex ⟨c, none⟩ ρ
def exT (x : Ex) : T := match x.line with
  | none => .ins false x.c [] []
  | some n => .ins false x.c [("line" : Str)] [.int n]
def sTry (L : List Str) (i j : Nat) (b : Ds) : Ds := fun ρ => match b ρ with
  | .ex x ρ' => if L.contains x.c = true then .nx (((ρ'.set i (some (exT x))).set j (some (exT x))).set i none) else .bad
  | f => f
structure XRs (K : PySem.W.Frag) (mg : Str → Option Value) (c : Str) (C : Addr) : Prop where
  gC : mg c = some (.ref C)
  xP : PySem.W.excIn K C [.type "ValueError", .type "Exception", .type "BaseException", .type "object"] "ValueError.__new__" = true
  kP : PySem.W.keepIn K (.ref C) = true
  bP : PySem.W.subIn K (.ref C) (.type "BaseException") = some true
  tP : PySem.W.typeIn K (.ref C) = some (.type "type")
structure XCt (K : PySem.W.Frag) (mg : Str → Option Value) (D : Addr) (c : Str) (C : Addr) : Prop where
  gC : mg c = some (.ref C)
  nC : PySem.W.nsIn K mainGlobals c = some (some (.ref C))
  sC : PySem.W.exmOne K (.ref C) (.ref D) = some true
section
variable {X : Cx} {pins : List (Addr × Obj)} {σ : L2.St} {H : Hp} {s : Shared}
variable {x n y : Str} {c : Value} {i j : Nat} {body : List Stmt} {np p1 p2 p3 pos pos' : Pos} {tb : WX → TS}
end
section
variable {X : Cx} {pv : Pins} {W : WX} {K : PySem.W.Frag} {mg : Str → Option Value} {H H' : Hp} {M M' : MS} {F : List Addr} {σ : Sg} {ρ : Env}
end
end Q
namespace Q
open PySem PySem.Spec PyProof.Rows L2
variable [tbI : Tbl]
include tbI
def isaE (c n : Str) : Bool := c == n || n == ("CountError" : Str) || n == ("ValueError" : Str)
def fIsE (L ns : List Str) : List T → Option T
  | [.ins _ c [] []] => if L.contains c = true then some (.bl (ns.any (isaE c))) else none
  | [.non] => some (.bl false)
  | _ => none
structure IsC (K : PySem.W.Frag) (n : Str) (u : Value) (c : Str) (C : Addr) : Prop where
  ex : ExcC K C
  is : PySem.W.kitOne K (.ref C) u = some (isaE c n)
section
variable {X : Cx} {pv : Pins} {W : WX} {e : Expr} {es : List Expr} {r : Dr} {L ns : List Str} {n : Str} {p p1 p2 pos : Pos}
end
end Q
namespace Q
open PySem PySem.Spec PyProof.Rows L2
variable [tbI : Tbl]
include tbI
section
variable {K : PySem.W.Frag} {H H' : Hp} {M : MS} {a : Addr} {kvs : List (Key × V)}
structure HL (a : Addr) (kvs : List (Key × V)) (H H' : Hp) : Prop where
  oth : ∀ b o, H b = some o → b ≠ a → H' b = some o
  rd : ∀ u, (∀ o w, u ≠ HO.frz o w) → Rd H a u → Rd H' a u
  was : ∀ o, H a = some o → o = .dK kvs ∨ ∃ od, o = .frz od (.dK kvs)
theorem HL.rds (s : HL a kvs H H') {b : Addr} {u : HO} (nf : ∀ o w, u ≠ HO.frz o w) (r : Rd H b u) : Rd H' b u := by
  by_cases e : b = a
  · subst e; exact s.rd u nf r
  · rcases r with r | ⟨o, r⟩
    · exact .inl (s.oth b _ r e)
    · exact .inr ⟨o, s.oth b _ r e⟩
def nD : HO → Bool
  | .dK _ => false
  | .frz _ (.tup _) => true
  | .frz _ _ => false
  | _ => true
theorem HL.at (s : HL a kvs H H') {b : Addr} {o : HO} (h : H b = some o) (n : nD o = true) : H' b = some o := by
  refine s.oth b o h fun z => ?_
  subst z
  rcases s.was o h with z | ⟨od, z⟩
  · subst z; cases n
  · subst z; cases n
theorem HL.rdl (s : HL a kvs H H') {b : Addr} {vs : List V} (r : Rd H b (.lst vs)) : Rd H' b (.lst vs) := s.rds (fun _ _ z => nomatch z) r
theorem HL.rdd (s : HL a kvs H H') {b : Addr} {k2 : List (Key × V)} (r : Rd H b (.dK k2)) : Rd H' b (.dK k2) := s.rds (fun _ _ z => nomatch z) r
theorem HL.own (s : HL a kvs H H') {b : Addr} {o : HO} (m : ¬ M a) (h : H b = some o) (n : M b) : H' b = some o := s.oth b o h fun z => m (z ▸ n)
theorem tq_swap {P : Addr} {q : Str} (s : HL a kvs H H') (t : TabQ H M P q) : TabQ H' M P q := by
  obtain ⟨ps, h1, h2, h3, h4⟩ := t
  refine ⟨ps, s.at h1 rfl, h2, h3, fun pos cv hc => ?_⟩
  obtain ⟨c, e1, e2, e3⟩ := h4 pos cv hc
  exact ⟨c, e1, s.at e2 rfl, e3⟩
mutual
theorem Rep.swap (s : HL a kvs H H') (m : ¬ M a) : ∀ {fp : List Addr} {v : V} {t : T}, Rep K H M fp v t → Rep K H' M fp v t
  | _, _, _, .non => .non
  | _, _, _, .bl b => .bl b
  | _, _, _, .int i => .int i
  | _, _, _, .str x => .str x
  | _, _, _, .tup e r => .tup (s.at e rfl) (r.swap s m)
  | _, _, _, .con e r => .con (e.imp id fun ⟨o, z, q⟩ => ⟨o, s.at z rfl, q⟩) (r.swap s m)
  | _, _, _, .lstF e n r => .lstF (s.rdl e) n (r.swap s m)
  | _, _, _, .lstK e r => .lstK e (r.swap s m)
  | _, _, _, .lstO e n r => .lstO (s.at e rfl) n (r.swap s m)
  | _, _, _, .dKF e n r => .dKF (s.rdd e) n (r.swap s m)
  | _, _, _, .dKO e n r => .dKO (s.own m e n) n (r.swap s m)
  | _, _, _, .dTF e n r => .dTF (s.at e rfl) n (r.swap s m)
  | _, _, _, .dTO e n r => .dTO (s.at e rfl) n (r.swap s m)
  | _, _, _, .exn g e n => .exn g (s.at e rfl) n
  | _, _, _, .exl g e n x => .exl g (s.at e rfl) n (s.at x rfl)
  | _, _, _, .insF g e n r => .insF g (s.at e rfl) n (r.swap s m)
  | _, _, _, .insO g e n r => .insO g (s.at e rfl) n (r.swap s m)
  | _, _, _, .hol e => .hol e
  | _, _, _, .mrk e r => .mrk e (r.swap s m)
theorem Reps.swap (s : HL a kvs H H') (m : ¬ M a) : ∀ {fp : List Addr} {vs : List V} {ts : List T}, Reps K H M fp vs ts → Reps K H' M fp vs ts
  | _, _, _, .nil => .nil
  | _, _, _, .cons r rs => .cons (r.swap s m) (rs.swap s m)
end
theorem ERep.swap (s : HL a kvs H H') (m : ¬ M a) : ∀ {F : List Addr} {σ : Sg} {ρ : Env}, ERep K H M F σ ρ → ERep K H' M F σ ρ
  | _, _, _, .nil t => .nil fun P q l => tq_swap s (t P q l)
  | _, _, _, .none r => .none (r.swap s m)
  | _, _, _, .some r rs => .some (r.swap s m) (rs.swap s m)
end
def iDict (i : Nat) : Da := fun ρ => match rVar i ρ with
  | some (.dic _ false ks _) => .ok (ks, ρ)
  | _ => .bad
def dLk (i : Nat) (d : De) : De := fun ρ => match rVar i ρ with
  | some (.dic false false _ _) => (match d ρ with | .ok x => .ok x | _ => .bad)
  | _ => .bad
section
variable {X : Cx} {pv : Pins} {W : WX} {tg e elt : Expr} {ifs : List Expr} {pos : Pos} {d : De} {t : Db} {g : T → Env → Option Env} {scope : Scope} {own : List (Str × Nat)} {i : Nat} {x : Str}
end
end Q
namespace Q
open PySem PySem.Spec PyProof.Rows L2
variable [tbI : Tbl]
include tbI
section
variable {K : PySem.W.Frag}
end
end Q
namespace Q
open PySem PySem.Spec PyProof.Rows L2
noncomputable section
def jk5 : Ds := sRet (dDisp [.inr "cells", .inr "at", .inr "left"] (dCons (dFz (vOp fList (dCons (jbm (rVar 0) none (some (rC (.int 63)))) dNil))) (dCons (dOf (rC (.int 0))) (dCons (dOf (rC (.int 0))) dNil))))
def jel : FD := fRun 1 [] jk5
def je1 : Ds := sSeq (sIf (rTest (rOp2 fGt (rOp2 fIx (rVar 0) (rC (.str "left"))) (rC (.int 0)))) (sSeq (sSet 2 (dOf (rOp2 fMod (rOp2 fIx (rVar 0) (rC (.str "left"))) (rVar 1)))) (sSeq (sAsg (dOf (rOp2 fDiv (rOp2 fIx (rVar 0) (rC (.str "left"))) (rVar 1))) (gPut 0 (pName 0) (rC (.str "left")))) (sRet (dOf (rVar 2))))) (sNil)) (sSeq (sSet 3 (dOf (rOp2 fIx (rVar 0) (rC (.str "at"))))) (sSeq (sAsg (dOf (rOp2 fAddR (rVar 3) (rC (.int 1)))) (gPut 0 (pName 0) (rC (.str "at")))) (sSeq (sSet 4 (dOf (rOp2 fIx (rVar 0) (rC (.str "cells"))))) (sSeq (sSet 5 (dOf (rOp2 fAddR (rOp2 fAddR (rOp2 fMulR (rOp2 fMulR (rC (.int 70207)) (rVar 3)) (rVar 3)) (rOp2 fMulR (rC (.int 131)) (rVar 3))) (rC (.int 29))))) (sSeq (sIf (bTest (vOp2 (fro fNe) (dOf (rVar 4)) (vOp fLst (dNil)))) (sSet 5 (dOf (rOp2 fIx (rVar 4) (rOp2 fMod (rVar 3) (rOpN fLen [rVar 4]))))) (sNil)) (sSeq (sIf (bAnd (rTest (rOp2 fLt (rVar 3) (rOpN fLen [rVar 4]))) (rTest (rOp2 fGe (rOpN fAbs [rVar 5]) (rOp2 fPow (rC (.int 10)) (rC (.int 18)))))) (sSeq (sAsg (dOf (rOp2 fDiv (rOpN fAbs [rVar 5]) (rVar 1))) (gPut 0 (pName 0) (rC (.str "left")))) (sRet (dOf (rOp2 fMod (rOpN fAbs [rVar 5]) (rVar 1))))) (sNil)) (sSeq (sSet 6 (dOf (rOp2 fMod (rOp2 fPow (rOp2 fAddR (rOp2 fAddR (rOp2 fMod (rVar 5) (rC (.int 2147483587))) (rOp2 fMulR (rC (.int 45007)) (rVar 3))) (rC (.int 11))) (rC (.int 3))) (rC (.int 2147483629))))) (sSeq (sSet 7 (dOf (rOp2 fMod (rOp2 fPow (rOp2 fAddR (rOp2 fAddR (rVar 6) (rOp2 fMulR (rOp2 fMulR (rC (.int 1213)) (rVar 3)) (rVar 3))) (rC (.int 3))) (rC (.int 5))) (rC (.int 2147483543))))) (sRet (dOf (rOp2 fMod (rOp2 fDiv (rOp2 fMod (rOp2 fMulR (rVar 7) (rOp2 fAddR (rOp2 fMod (rVar 6) (rC (.int 64007))) (rC (.int 1)))) (rC (.int 2147483579))) (rC (.int 64))) (rVar 1))))))))))))
def jab : FD := fRun 8 [0] je1
def jey : De := dIx0 2 (dCall jab [0] [some 0, none] (dIno 0 (dCons (dOf (rC (.int 26))) dNil)))
def jez : Ds := sSeq (sSet 9 (dFz (bOp fCat [rOp2 fIx (rVar 2) (rOp2 fMod (rOp2 fAddR (rVar 4) (rOp2 fMulR (rC (.int 9)) (rOp2 fMod (rVar 10) (rC (.int 2))))) (rC (.int 26))), rVar 9]))) (sSet 10 (dOf (rOp2 fDiv (rOp2 fSub (rVar 10) (rC (.int 1))) (rC (.int 2)))))
def je0 : Ds := jar [8, 9, 10] (sSeq (sSet 9 (dFz (bOp fCat [rOp2 fIx (rVar 2) (rOp2 fMod (rOp2 fAddR (rVar 4) (rOp2 fMulR (rC (.int 7)) (rVar 8))) (rC (.int 26))), rOp2 fIx (rVar 2) (rOp2 fMod (rOp2 fAddR (rVar 4) (rOp2 fDiv (rVar 8) (rC (.int 26)))) (rC (.int 26)))]))) (sSeq (sSet 9 (dFz (vOp2 fCat (vOp2 fCat (jbm (rVar 5) none (some (rVar 6))) (dOf (rVar 9))) (jbm (rVar 5) (some (rVar 6)) none)))) (sSeq (sIf (rTest (rOp2 fEq (rVar 3) (rC (.int 1)))) (sSeq (sSet 9 (dOf (rC (.str "")))) (sSeq (sSet 10 (dOf (rOp2 fAddR (rVar 8) (rC (.int 1))))) (sWhile (rTest (rOp2 fGt (rVar 10) (rC (.int 0)))) jez))) (sNil)) (sExpr (dMeth false 7 jde (dCons (dOf (rVar 9)) dNil))))))
def jg5 : Ds := sSeq (sSet 2 (dOf (rC (.str "abcdefghijklmnopqrstuvwxyz")))) (sSeq (sSet 3 (dFz (dCall jab [0] [some 0, none] (dIno 0 (dCons (dOf (rC (.int 3))) dNil))))) (sSeq (sSet 4 (dFz (dCall jab [0] [some 0, none] (dIno 0 (dCons (dOf (rC (.int 26))) dNil))))) (sSeq (sSet 5 (vOp2 (fro fJoin) (dOf (rC (.str ""))) (noEx (dComp [8] (jat (dCons (vOp2 (fro fIx) (vOp fLst (dCons (dCall jab [0] [some 0, none] (dIno 0 (dCons (dOf (rC (.int 7))) dNil))) (dCons (dOf (rC (.int 0))) (dCons (dOf (rC (.int 6))) dNil)))) (dOf (rVar 3))) dNil)) (gSlot 8) bYes jey)))) (sSeq (sSet 6 (dFz (dCall jab [0] [some 0, none] (dIno 0 (dCons (dOf (rOp2 fAddR (rOpN fLen [rVar 5]) (rC (.int 1)))) dNil))))) (sSeq (sSet 7 (vOp fLst (dNil))) (sSeq (sFor (jat (dCons (dOf (rVar 1)) dNil)) (gSlot 8) je0) (sRet (dMove 7))))))))
def jbn : FD := fRun 11 [0] jg5
end
end Q
namespace Q
open PySem PySem.Spec PyProof.Rows L2
noncomputable section
end
end Q
namespace Q
open PySem PySem.Spec PyProof.Rows L2
variable [tbI : Tbl]
include tbI
abbrev lamQ (x : Str) : Str := x ++ (".<locals>." : Str) ++ ("<lambda>" : Str)
def CodeK (K : PySem.W.Frag) (c P : Addr) : Prop := ∃ o vs file tf flags tg inF text tt, K.lookup c = some o ∧ o.cls = .type "code" ∧ o.data = .fields vs ∧ vs[11]? = some (.ref P) ∧ vs.getD 11 .none = .ref P ∧ vs.getD 18 .none = .str file tf ∧
    vs.getD 7 .none = .int flags tg ∧ vs.getD 9 .none = .bool inF ∧ vs.getD 10 .none = .int text tt ∧ c ≠ P
structure LamFn (K : PySem.W.Frag) (x : Str) (c P : Addr) : Prop where
  lt : Tbl.L P (lamQ x)
  hd : CodeK K c P
theorem CodeK.hd {K : PySem.W.Frag} {c P : Addr} {h : Heap} (k : CodeK K c P) (kin : K.In h) : PySem.W.CodeHd h c P := by
  obtain ⟨o, vs, file, tf, flags, tg, inF, text, tt, e, r⟩ := k
  exact ⟨o, vs, file, tf, flags, tg, inF, text, tt, kin _ _ e, r⟩
section
variable {X : Cx} {pins : List (Addr × Obj)} {σ : L2.St} {H : Hp} {M : MS} {s : Shared}
end
end Q
namespace Q
open PySem PySem.Spec PyProof.Rows L2 PySem.W PySem.Calls
variable [tbI : Tbl]
include tbI
theorem RB.frm {K : PySem.W.Frag} {H H' : Hp} {M M' : MS} (f : Frm H M [] H' M') : ∀ {vs : List V} {ts : List T}, RB K H M vs ts → RB K H' M' vs ts
  | _, _, .nil => .nil
  | _, _, .cons r rs => .cons (r.frm f (fun _ z => nomatch z) fun _ _ z => nomatch z) (rs.frm f)
section
variable {X : Cx} {pv : Pins} {W : WX}
variable {e : Expr} {pos p lp kp : Pos} {d : De}
end
end Q
namespace Q
open PySem PySem.Spec PyProof.Rows L2
end Q
namespace Q
open PySem PySem.Spec PyProof.Rows L2
variable [tbI : Tbl]
include tbI
section
variable {X : Cx} {pv : Pins} {W : WX} {e a b c h : Expr} {pos p2 : Pos} {d dh da db : De} {u : Dr}
end
end Q
namespace Q
open PySem PySem.Spec PyProof.Rows L2 PySem.W PySem.Calls
variable [tbI : Tbl]
include tbI
end Q
namespace Q
open PySem PySem.Spec PyProof.Rows L2 PySem.W PySem.Calls
variable [tbI : Tbl]
include tbI
section
variable {K : PySem.W.Frag} {H : Hp} {M : MS}
end
section
variable {X : Cx} {pv : Pins} {W : WX} {e : Expr} {p p2 pos pos2 : Pos} {ds : Da}
end
end Q
namespace Q
open PySem PySem.Spec PyProof.Rows L2
mutual
def T.flat : T → Bool
  | .non => true
  | .bl _ => true
  | .int _ => true
  | .str _ => true
  | .tup xs => flats xs
  | .con xs => flats xs
  | .lst _ _ => false
  | .dic _ _ _ _ => false
  | .ins _ _ _ _ => false
def flats : List T → Bool
  | [] => true
  | x :: xs => x.flat && flats xs
end
def fzE (ρ : Env) : Env := ρ.map (Option.map T.fz)
def dLend (d : De) : De := fun ρ => match d (fzE ρ) with
  | .ok (u, _) => if u.flat = true then .ok (u, ρ) else .bad
  | .ex x _ => .ex x ρ
  | .bad => .bad
variable [tbI : Tbl]
include tbI
section
variable {K : PySem.W.Frag} {H H' : Hp} {M M' : MS}
mutual
theorem Rep.flat : ∀ {fp : List Addr} {v : V} {t : T}, Rep K H M fp v t → t.flat = true → Rep K H M' [] v t
  | _, _, _, .non, _ => .non
  | _, _, _, .bl b, _ => .bl b
  | _, _, _, .int i, _ => .int i
  | _, _, _, .str x, _ => .str x
  | _, _, _, .tup e r, h => .tup e (r.flat h)
  | _, _, _, .con e r, h => .con e (r.flat h)
  | _, _, _, .lstF _ _ _, h => by simp [T.flat] at h
  | _, _, _, .lstK _ _, h => by simp [T.flat] at h
  | _, _, _, .lstO _ _ _, h => by simp [T.flat] at h
  | _, _, _, .dKF _ _ _, h => by simp [T.flat] at h
  | _, _, _, .dKO _ _ _, h => by simp [T.flat] at h
  | _, _, _, .dTF _ _ _, h => by simp [T.flat] at h
  | _, _, _, .dTO _ _ _, h => by simp [T.flat] at h
  | _, _, _, .exn _ _ _, h => by simp [T.flat] at h
  | _, _, _, .exl _ _ _ _, h => by simp [T.flat] at h
  | _, _, _, .insF _ _ _ _, h => by simp [T.flat] at h
  | _, _, _, .insO _ _ _ _, h => by simp [T.flat] at h
  | _, _, _, .hol _, h => by simp [T.flat] at h
  | _, _, _, .mrk _ _, h => by simp [T.flat] at h
theorem Reps.flat : ∀ {fp : List Addr} {vs : List V} {ts : List T}, Reps K H M fp vs ts → flats ts = true → Reps K H M' [] vs ts
  | _, _, _, .nil, _ => .nil
  | _, _, _, .cons r rs, h => .cons (fp := []) (r.flat (by rw [flats, Bool.and_eq_true] at h; exact h.1)) (rs.flat (by rw [flats, Bool.and_eq_true] at h; exact h.2))
end
mutual
theorem Rep.noExt : ∀ {fp : List Addr} {v : V} {t : T}, Rep K H M fp v t → ∀ a ∈ fp, ∀ φ, H a ≠ some (.ext φ)
  | _, _, _, .non => fun _ h => nomatch h
  | _, _, _, .bl _ => fun _ h => nomatch h
  | _, _, _, .int _ => fun _ h => nomatch h
  | _, _, _, .str _ => fun _ h => nomatch h
  | _, _, _, .tup _ r => r.noExt
  | _, _, _, .con _ r => r.noExt
  | _, _, _, .lstF _ _ r => r.noExt
  | _, _, _, .lstK _ r => r.noExt
  | _, _, _, .lstO e _ r => fun a ha φ z => (List.mem_cons.mp ha).elim (fun q => by subst q; rw [e] at z; cases z) fun q => r.noExt a q φ z
  | _, _, _, .dKF _ _ r => r.noExt
  | _, _, _, .dKO e _ r => fun a ha φ z => (List.mem_cons.mp ha).elim (fun q => by subst q; rw [e] at z; cases z) fun q => r.noExt a q φ z
  | _, _, _, .dTF _ _ r => r.noExt
  | _, _, _, .dTO e _ r => fun a ha φ z => (List.mem_cons.mp ha).elim (fun q => by subst q; rw [e] at z; cases z) fun q => r.noExt a q φ z
  | _, _, _, .exn _ _ _ => fun _ h => nomatch h
  | _, _, _, .exl _ _ _ _ => fun _ h => nomatch h
  | _, _, _, .insF _ _ _ r => r.noExt
  | _, _, _, .insO _ e _ r => fun a ha φ z => (List.mem_cons.mp ha).elim (fun q => by subst q; rw [e] at z; cases z) fun q => r.noExt a q φ z
  | _, _, _, .hol _ => fun _ h => nomatch h
  | _, _, _, .mrk _ r => r.noExt
theorem Reps.noExt : ∀ {fp : List Addr} {vs : List V} {ts : List T}, Reps K H M fp vs ts → ∀ a ∈ fp, ∀ φ, H a ≠ some (.ext φ)
  | _, _, _, .nil => fun _ h => nomatch h
  | _, _, _, .cons r rs => fun a ha φ => (List.mem_append.mp ha).elim (fun q => r.noExt a q φ) fun q => rs.noExt a q φ
end
theorem ERep.noExt : ∀ {F : List Addr} {σ : Sg} {ρ : Env}, ERep K H M F σ ρ → ∀ a ∈ F, ∀ φ, H a ≠ Option.some (HO.ext φ)
  | _, _, _, .nil _ => fun _ h => nomatch h
  | _, _, _, .none r => r.noExt
  | _, _, _, .some r rs => fun a ha φ => (List.mem_append.mp ha).elim (fun q => r.noExt a q φ) fun q => rs.noExt a q φ
theorem ERep.fzAll (h1 : ∀ a, M' a → M a) : ∀ {F : List Addr} {σ : Sg} {ρ : Env}, ERep K H M F σ ρ → (∀ a ∈ F, ¬ M' a) → ERep K H M' [] σ (fzE ρ)
  | _, _, _, .nil t, _ => .nil fun P q l => (t P q l).less h1
  | _, _, _, .none r, d => .none (r.fzAll h1 d)
  | _, _, _, .some r rs, d => .some (fp := []) (r.freeze h1 fun a ha => d a (List.mem_append_left _ ha)) (rs.fzAll h1 fun a ha => d a (List.mem_append_right _ ha))
def back (H : Hp) (M M' : MS) : MS := fun a => (M a ∧ ∃ o, H a = some o) ∨ (M' a ∧ H a = none)
theorem jk6 {a : Addr} {o : HO} (e : H a = some o) : back H M M' a ↔ M a := by
  unfold back
  rw [e]
  exact ⟨fun h => h.elim (fun z => z.1) fun z => (nomatch z.2), fun h => .inl ⟨h, o, rfl⟩⟩
theorem jn0 {F G : List Addr} (oF : Own H M F) (nx : ∀ a ∈ F, ∀ φ, H a ≠ some (.ext φ)) (st : Stp H (fun a => M a ∧ a ∉ F) [] H' M' G) : Frm H M [] H' (back H M M') := by
  refine ⟨fun a o e n nt => st.frm.keep a o e n nt, fun a o e _ => jk6 e, st.frm.there, fun P q l t => ?_⟩
  obtain ⟨ps, h1, h2, h3, h4⟩ := st.frm.tabs P q l (t.less fun a h => h.1)
  obtain ⟨ps0, k1, _, k3, _⟩ := t
  refine ⟨ps, h1, h2, fun z => k3 ((jk6 k1).mp z), fun pos cv hc => ?_⟩
  obtain ⟨c, e1, e2, e3⟩ := h4 pos cv hc
  refine ⟨c, e1, e2, fun z => ?_⟩
  rcases z with ⟨z1, o, z2⟩ | ⟨z1, _⟩
  · have n : ¬ (M c ∧ c ∉ F) := fun y => e3 ((st.frm.own c o z2 (fun y => nomatch y)).mpr y)
    have hF : c ∈ F := by
      apply Classical.byContradiction
      exact fun y => n ⟨z1, y⟩
    have mu := (oF c hF).2
    rw [z2] at mu
    have nx2 := nx c hF
    cases o <;> first | exact mu.elim | exact (nx2 _ z2).elim | (have y := st.frm.keep c _ z2 (fun y => nomatch y); rw [e2] at y; cases y)
  · exact e3 z1
end
section
variable {X : Cx} {pv : Pins} {W : WX} {e : Expr} {d : De}
theorem l_lend (h : LE X pv W e d) : LE X pv W e (dLend d) := weakE h fun σ H Q ⟨M, F, ρ, S, q⟩ => by
  refine ⟨fun a => M a ∧ a ∉ F, [], fzE ρ, ⟨S.rep.fzAll (fun a h => h.1) (fun a ha z => z.2 ha), .nil, S.pin⟩, ?_⟩
  have go : ∀ {H' : Hp} {M' : MS} {G : List Addr}, Stp H (fun a => M a ∧ a ∉ F) [] H' M' G → Sta X.K pv H' (back H M M') F σ ρ ∧ Stp H M F H' (back H M M') F := fun {H' M' G} st => by
    have f := jn0 S.rep.own S.rep.noExt st
    exact ⟨⟨S.rep.frm f (fun _ z => nomatch z) (fun _ _ z => nomatch z), S.nd, S.pin⟩, f.any, fun a ha => .inl ha⟩
  unfold dLend at q
  cases e : d (fzE ρ) with
  | bad => rw [e] at q; exact q
  | ex x ρ' =>
    rw [e] at q
    intro cls dd H' M' F' ex S' st
    obtain ⟨g1, g2⟩ := go st
    exact q cls dd H' _ F ex g1 g2
  | ok a =>
    rw [e] at q
    obtain ⟨u, ρ'⟩ := a
    dsimp only at q
    split at q
    · rename_i fl
      intro v H' M' fv F' r S' nd st
      obtain ⟨g1, g2⟩ := go st
      exact q v H' _ [] F (r.flat fl) g1 S.nd g2
    · exact q.elim
end
end Q
namespace Q
open PySem PySem.Spec PyProof.Rows L2
variable [tbI : Tbl]
include tbI
section
variable {X : Cx} {pv : Pins} {W : WX} {tg : Expr} {sts : List Stmt} {pos : Pos} {x : Ds} {g : T → Env → Option Env}
end
end Q
namespace Q
open PySem PySem.Spec PyProof.Rows L2
variable [tbI : Tbl]
include tbI
theorem fn_bad {P : Program} {w : World} {K : PySem.W.Frag} {mg : Str → Option Value} {base : Heap} {k : Nat} {a : Addr} {fd : FuncData} {ps : List Str} {ino : List Nat} : FnQ P w K mg base k a fd ps ino (fun _ => .bad) where
  args := fun vs H Q E ⟨_, _, _, _, _, _, _, z⟩ => z.elim
  goes := fun A outer s H ar us vs Q E r e b v ⟨_, _, _, _, _, _, _, z⟩ => z.elim
end Q
namespace Q
open PySem PySem.Spec PyProof.Rows L2
def zipT (xs ys : List T) : List T := List.zipWith (fun a b => .tup [a, b]) xs ys
def iZip (ds : Da) : Da := fun ρ => (ds ρ).bind fun x => match x.1 with
  | [.lst false xs, .lst false ys] => if (frs xs && frs ys) = true then .ok (zipT xs ys, x.2) else .bad
  | [.tup xs, .tup ys] => if (frs xs && frs ys) = true then .ok (zipT xs ys, x.2) else .bad
  | _ => .bad
variable [tbI : Tbl]
include tbI
theorem jn1 {K : PySem.W.Frag} {a b : Addr} {xs ys : List V} {n : Nat} (hn : n = min xs.length ys.length) : Walk (RZ.ItzT K a b) n (fun H => SqT K H a xs ∧ SqT K H b ys) (YPair (fun i => xs[i]?) (fun i => ys[i]?)) := by
  subst hn
  refine ⟨fun i _ hi q => ?_, fun _ q => ⟨xs, ys, q.1, q.2, by omega⟩, fun i H v H' _ q y => ?_⟩
  · have h1 : i < xs.length := by omega
    have h2 : i < ys.length := by omega
    exact ⟨xs, ys, xs[i], ys[i], q.1, q.2, by simp [h1], by simp [h2]⟩
  · obtain ⟨T, x, z, h1, h2, h3, h4, h5⟩ := y
    exact ⟨T, x, z, h1, h2, h3, h4 xs q.1, h5 ys q.2⟩
section
variable {K : PySem.W.Frag} {H H1 : Hp} {M M1 : MS} {F F1 fp : List Addr}
theorem zip_tup {v : V} {xs : List T} (r : Rep K H M fp v (.tup xs)) (h : frs xs = true) : ∃ a vs, v = .ref a ∧ Reps K H M [] vs xs ∧ SqT K H a vs ∧ ∀ M' H' F, Frm H M F H' M' → Own H M F → SqT K H' a vs := by
  cases r with
  | tup hs rs =>
    have z := rs.fpNil h
    subst z
    exact ⟨_, _, rfl, rs, .of hs, fun M' H' F f o => .of (f.keep _ _ hs fun ha => jkr (o _ ha).2 (.inl hs))⟩
theorem zip_lst {v : V} {xs : List T} (r : Rep K H M fp v (.lst false xs)) (h : frs xs = true) : ∃ a vs, v = .ref a ∧ Reps K H M [] vs xs ∧ SqL K H a vs ∧ ∀ M' H' F, Frm H M F H' M' → Own H M F → SqL K H' a vs := by
  cases r with
  | lstF hs m rs =>
    have z := rs.fpNil h
    subst z
    exact ⟨_, _, rfl, rs, .inl hs, fun M' H' F f o => .inl (rd_out f hs fun ha => m (o _ ha).1)⟩
  | lstK hs rs =>
    have z := rs.fpNil h
    subst z
    exact ⟨_, _, rfl, rs, .inr hs, fun M' H' F f o => .inr hs⟩
theorem zip_yld {vs ws : List V} {xs ys : List T} (rs : Reps K H1 M1 [] vs xs) (ss : Reps K H1 M1 [] ws ys) (ho : Own H1 M1 F1) : ∀ i H2 M2 v H3, i < min vs.length ws.length → Frm H1 M1 F1 H2 M2 → YPair (fun i => vs[i]?) (fun i => ws[i]?) i H2 v H3 → ∃ t, (zipT xs ys)[i]? = some t ∧ Rep K H3 M2 [] v t ∧ Stp H2 M2 [] H3 M2 [] := by
  rintro i H2 M2 v H3 hi f ⟨q, x, y, rfl, hq, rfl, ex, ey⟩
  have one : ∀ {vs : List V} {xs : List T} {x : V}, Reps K H1 M1 [] vs xs → vs[i]? = some x → ∃ t, xs[i]? = some t ∧ Rep K H2 M2 [] x t := fun {vs xs x} rs ex => by
    have rs2 := rs.frm f ho (fun _ z => nomatch z)
    obtain ⟨t, et⟩ := rs2.getV ex
    obtain ⟨w, fq, g1, g2, g3⟩ := rs2.get et
    rw [ex] at g1; cases g1
    cases fq with
    | cons a b => exact (nomatch g3 a List.mem_cons_self)
    | nil => exact ⟨t, et, g2⟩
  obtain ⟨t, t1, t2⟩ := one rs ex
  obtain ⟨u, u1, u2⟩ := one ss ey
  obtain ⟨w1, w2⟩ := jm4 hq (.cons (fp := []) t2 (.cons (fp := []) u2 .nil))
  exact ⟨_, by unfold zipT; rw [List.getElem?_zipWith, t1, u1], w1, w2⟩
end
section
variable {X : Cx} {pv : Pins} {W : WX} {e e2 : Expr} {p pos tpos : Pos} {elts : List Expr} {kk : Nat} {ds : Da}
theorem li_zip (ha : LA X pv W [e, e2] ds) (hm : X.mg "zip" = none) (hg : Gl X "zip" := by rfl) (hs : starEach [e, e2] X.env = (false, eval e X.env) :: starEach [e2] X.env := by rfl) (hpl : (backTo pos (starEach [e2] X.env)).any (·.1) = false := by rfl) :
    LI X pv W (.Tuple elts kk tpos) (.Call (.Name "zip" p) [e, e2] [] pos) (iZip ds) :=
  weakI (RZ.pi_zipA hg hm ha hs hpl) fun σ H Rk ⟨M, F, ρ, S, q⟩ => by
    refine ⟨M, F, ρ, S, ?_⟩
    unfold iZip at q
    cases e0 : ds ρ with
    | bad => rw [e0] at q; exact q
    | ex x ρ' => rw [e0] at q; exact q
    | ok x =>
      rw [e0] at q
      obtain ⟨ts, ρ'⟩ := x
      simp only [R.bind] at q
      split at q
      · rename_i xs ys
        split at q
        · rename_i fr
          rw [Bool.and_eq_true] at fr
          intro vs H' M' fv F' rs S' nd st
          have rb := rs.rb
          cases rb with
          | cons r1 rb =>
          cases rb with
          | cons r2 rb =>
          cases rb
          obtain ⟨a, us, rfl, ra, sa, ka⟩ := zip_lst r1 fr.1
          obtain ⟨b, ws, rfl, rb, sb, kb⟩ := zip_lst r2 fr.2
          have w : WkT X.K (Itz X.K a b) H' M' F' (zipT xs ys) := jm3 (walk_zip (xs := us) (ys := ws) rfl) (by unfold zipT; rw [List.length_zipWith, ra.length, rb.length]) (fun H2 M2 f => ⟨ka M2 H2 F' f S'.rep.own, kb M2 H2 F' f S'.rep.own⟩) (zip_yld ra rb S'.rep.own)
          exact ⟨a, b, us, ws, rfl, .inl ⟨sa, sb, q _ H' M' F' w S' (st.sub fun c hc => List.mem_append_right _ hc)⟩⟩
        · exact q.elim
      · rename_i xs ys
        split at q
        · rename_i fr
          rw [Bool.and_eq_true] at fr
          intro vs H' M' fv F' rs S' nd st
          have rb := rs.rb
          cases rb with
          | cons r1 rb =>
          cases rb with
          | cons r2 rb =>
          cases rb
          obtain ⟨a, us, rfl, ra, sa, ka⟩ := zip_tup r1 fr.1
          obtain ⟨b, ws, rfl, rb, sb, kb⟩ := zip_tup r2 fr.2
          have w : WkT X.K (RZ.ItzT X.K a b) H' M' F' (zipT xs ys) := jm3 (jn1 (xs := us) (ys := ws) rfl) (by unfold zipT; rw [List.length_zipWith, ra.length, rb.length]) (fun H2 M2 f => ⟨ka M2 H2 F' f S'.rep.own, kb M2 H2 F' f S'.rep.own⟩) (zip_yld ra rb S'.rep.own)
          exact ⟨a, b, us, ws, rfl, .inr ⟨sa, sb, q _ H' M' F' w S' (st.sub fun c hc => List.mem_append_right _ hc)⟩⟩
        · exact q.elim
      · exact q.elim
end
end Q
namespace Q
open PySem PySem.Spec PyProof.Rows L2
variable [tbI : Tbl]
include tbI
section
variable {X : Cx}
end
section
variable {K : PySem.W.Frag} {H : Hp} {M : MS}
end
theorem glo_tup {K : PySem.W.Frag} {mg : Str → Option Value} {x : Str} {a : Addr} {o : Obj} {its : Array Value} {n : Nat} {vs : List V} {ts : List T} (h : mg x = some (.ref a)) (l : K.lookup a = some o) (hc : o.cls = .type "tuple") (hx : o.dict = none) (hd : o.data = .seq its n) (hz : its.size ≤ sizeLine) (hv : Vals vs its.toList)
    (hr : ∀ H M, Reps K H M [] vs ts) : Glo K mg x (.con ts) := ⟨⟨.ref a, .ref a, h, rfl, fun H M => .con (.inl ⟨o, its, n, l, hc, hx, hd, hz, hv⟩) (hr H M)⟩⟩
end Q
namespace Q
open PySem PySem.Spec PyProof.Rows L2 PySem.W PySem.Calls
mutual
def cmpG : PyData → PyData → Bool
  | .tuple xs, e => (match e with
    | .tuple ys => cmpGs xs ys
    | _ => false)
  | .none, e => alike .none e
  | .bool b, e => alike (.bool b) e
  | .int n, e => alike (.int n) e
  | .str z, e => alike (.str z) e
  | .list xs, e => alike (.list xs) e
  | .dict kvs, e => alike (.dict kvs) e
def cmpGs : List PyData → List PyData → Bool
  | x :: xs, es => (match es with
    | y :: ys => cmpG x y && (!PyData.eqv x y || cmpGs xs ys)
    | [] => true)
  | [], _ => true
end
theorem cmpG_tup (xs ys : List PyData) : cmpG (.tuple xs) (.tuple ys) = cmpGs xs ys := by rw [cmpG]
theorem jn2 (x y : PyData) (xs ys : List PyData) : cmpGs (x :: xs) (y :: ys) = (cmpG x y && (!PyData.eqv x y || cmpGs xs ys)) := by rw [cmpGs]
theorem jkc {xs : List PyData} {e : PyData} (h : cmpG (.tuple xs) e = true) : ∃ ys, e = .tuple ys ∧ cmpGs xs ys = true := by
  cases e with
  | tuple ys => exact ⟨ys, rfl, by rwa [cmpG_tup] at h⟩
  | _ => exact absurd h (by simp [cmpG])
theorem jbk {d e : PyData} (hd : ∀ xs, d ≠ .tuple xs) (h : cmpG d e = true) : alike d e = true := by
  cases d with
  | tuple xs => exact absurd rfl (hd xs)
  | _ => rwa [cmpG] at h
theorem jhs {x y : PyData} {xs ys : List PyData} (h : cmpGs (x :: xs) (y :: ys) = true) : cmpG x y = true ∧ (PyData.eqv x y = true → cmpGs xs ys = true) := by
  rw [jn2, Bool.and_eq_true] at h
  refine ⟨h.1, fun e => ?_⟩
  have q := h.2
  rw [e] at q
  simpa using q
theorem cmpG_non {d e : PyData} (h : cmpG d e = true) (ne : PyData.eqv d e = false) : d ≠ .none := by
  intro z
  subst z
  exact ne_none_of (jbk (fun xs q => by cases q) h) ne rfl
abbrev lexG (a b : List (Int ⊕ List Nat)) : Bool := PyProof.Rows.lexLt itemOrd a b
def Tok2 (a b : List (Int ⊕ List Nat)) (e : Bool) : Prop := (e = true → a = b) ∧ (e = false → ∀ l m, lexG (a ++ l) (b ++ m) = lexG a b)
theorem tok2_cons {x y : PyData} {xs ys : List PyData} (h : Tok2 (keyToks x) (keyToks y) (PyData.eqv x y)) (k : PyData.eqv x y = true → Tok2 (keyToksAll xs) (keyToksAll ys) (PyData.eqvAll xs ys)) :
    Tok2 (keyToksAll (x :: xs)) (keyToksAll (y :: ys)) (PyData.eqvAll (x :: xs) (y :: ys)) := by
  rw [eqv_all_cons, toks_all_cons, toks_all_cons]
  cases hx : PyData.eqv x y with
  | true =>
    have e := h.1 hx
    have q := k hx
    rw [e, Bool.true_and]
    refine ⟨fun z => by rw [q.1 z], fun z l m => ?_⟩
    have z1 := q.2 z l m
    simp only [List.cons_append, List.append_assoc]
    show lexG _ _ = lexG _ _
    unfold lexG
    rw [lex_self (O := itemOrd), lex_self (O := itemOrd), lex_pre, lex_pre]
    exact z1
  | false =>
    rw [Bool.false_and]
    refine ⟨fun z => absurd z Bool.false_ne_true, fun _ l m => ?_⟩
    have z1 := h.2 hx
    simp only [List.cons_append, List.append_assoc]
    show lexG _ _ = lexG _ _
    unfold lexG
    rw [lex_self (O := itemOrd), lex_self (O := itemOrd)]
    exact (z1 _ _).trans (z1 _ _).symm
theorem tok2_nil (d : List PyData) : Tok2 (keyToksAll []) (keyToksAll d) (PyData.eqvAll [] d) := by
  have t := toksAll_eqv [] d (by rw [alikeAll])
  exact ⟨t.1, t.2⟩
theorem tok2_nilR (x : PyData) (xs : List PyData) : Tok2 (keyToksAll (x :: xs)) (keyToksAll []) (PyData.eqvAll (x :: xs) []) := by
  have t := toksAll_eqv (x :: xs) [] (by rw [alikeAll])
  exact ⟨t.1, t.2⟩
mutual
theorem toksG : ∀ (d e : PyData), cmpG d e = true → Tok2 (keyToks d) (keyToks e) (PyData.eqv d e)
  | .tuple xs, e, h => by
    obtain ⟨ys, rfl, hs⟩ := jkc h
    have t := toksGs xs ys hs
    simp only [keyToks, PyData.eqv]
    exact t
  | .none, e, h => toks_eqv _ _ (jbk (fun _ z => by cases z) h)
  | .bool _, e, h => toks_eqv _ _ (jbk (fun _ z => by cases z) h)
  | .int _, e, h => toks_eqv _ _ (jbk (fun _ z => by cases z) h)
  | .str _, e, h => toks_eqv _ _ (jbk (fun _ z => by cases z) h)
  | .list _, e, h => toks_eqv _ _ (jbk (fun _ z => by cases z) h)
  | .dict _, e, h => toks_eqv _ _ (jbk (fun _ z => by cases z) h)
theorem toksGs : ∀ (xs ys : List PyData), cmpGs xs ys = true → Tok2 (keyToksAll xs) (keyToksAll ys) (PyData.eqvAll xs ys)
  | [], ys, _ => tok2_nil ys
  | x :: xs, [], _ => tok2_nilR x xs
  | x :: xs, y :: ys, h => by
    have p := jhs h
    exact tok2_cons (toksG x y p.1) fun e => toksGs xs ys (p.2 e)
end
theorem ltG_yes {x y : PyData} {xs ys : List PyData} (h : cmpG x y = true) (e : PyData.eqv x y = true) : lexG (keyToksAll (x :: xs)) (keyToksAll (y :: ys)) = lexG (keyToksAll xs) (keyToksAll ys) := by
  rw [toks_all_cons, toks_all_cons, (toksG x y h).1 e]
  unfold lexG
  rw [lex_self (O := itemOrd), lex_pre]
theorem ltG_no {x y : PyData} {xs ys : List PyData} (h : cmpG x y = true) (e : PyData.eqv x y = false) : lexG (keyToksAll (x :: xs)) (keyToksAll (y :: ys)) = dataLt x y := by
  rw [toks_all_cons, toks_all_cons]
  unfold lexG
  rw [lex_self (O := itemOrd)]
  exact (toksG x y h).2 e _ _
mutual
theorem readG {h : Heap} : ∀ (d e : PyData) (v : Value) (as bs : List Addr), cmpG d e = true → d.plain = true → Reads h v d as → Reads h v e bs → d = e
  | .tuple xs, e, v, as, bs, hc, hp, r, q => by
    obtain ⟨ys, rfl, hs⟩ := jkc hc
    cases r with
    | tuple a1 a2 a3 a4 =>
      cases q with
      | tuple b1 b2 b3 b4 =>
        rw [a1] at b1; cases b1
        rw [a3] at b3; cases b3
        rw [readGs xs ys _ _ _ hs (by simpa [PyData.plain] using hp) a4 b4]
  | .none, e, v, as, bs, hc, _, r, q => alike_unique _ _ _ _ _ (jbk (fun _ z => by cases z) hc) r q
  | .bool _, e, v, as, bs, hc, _, r, q => alike_unique _ _ _ _ _ (jbk (fun _ z => by cases z) hc) r q
  | .int _, e, v, as, bs, hc, _, r, q => alike_unique _ _ _ _ _ (jbk (fun _ z => by cases z) hc) r q
  | .str _, e, v, as, bs, hc, _, r, q => alike_unique _ _ _ _ _ (jbk (fun _ z => by cases z) hc) r q
  | .list _, e, v, as, bs, hc, _, r, q => alike_unique _ _ _ _ _ (jbk (fun _ z => by cases z) hc) r q
  | .dict _, e, v, as, bs, hc, _, r, q => alike_unique _ _ _ _ _ (jbk (fun _ z => by cases z) hc) r q
theorem readGs {h : Heap} : ∀ (xs ys : List PyData) (vs : List Value) (as bs : List Addr), cmpGs xs ys = true → PyData.plainAll xs = true → ReadsAll h vs xs as → ReadsAll h vs ys bs → xs = ys
  | [], ys, _, _, _, _, _, r, q => by cases r; cases q; rfl
  | x :: xs, [], _, _, _, _, _, r, q => by cases q; cases r
  | x :: xs, y :: ys, _, _, _, hc, hp, r, q => by
    have p := jhs hc
    have pp : x.plain = true ∧ PyData.plainAll xs = true := by simpa [PyData.plainAll] using hp
    cases r with
    | cons r1 r2 =>
      cases q with
      | cons q1 q2 =>
        have e := readG x y _ _ _ p.1 pp.1 r1 q1
        subst e
        rw [readGs xs ys _ _ _ (p.2 (SeqAt.eqv_refl_plain x pp.1)) pp.2 r2 q2]
end
section
open PySem.SeqAt
open PySem.AutoSeq1 (wpAny_loadPart')
open PySem.MeetsSeq PySem.MeetsSeq2 PySem.MeetsSeq3
def Lex1 (A : Around) (s : Shared) (fin k : Bool) : List (Value × Value) → Prop
  | [] => k = fin
  | z :: r => ∃ e, EqAt A s z.1 z.2 e ∧ (e = true → Lex1 A s fin k r) ∧ (e = false → RcLt A s z.1 z.2 k)
theorem tup_lex1 (p q : Addr) (xs ys : Array Value) (n m : Nat) (d1 d2 : Option Addr) (l1 l2 : Array (Option Value)) (k : Bool) :
    Meets (Builtin.«tuple.__lt__» ⟨[.ref p, .ref q], []⟩)
      (fun A R s => s.heap.get? p = some ⟨.type "tuple", d1, .seq xs n, l1⟩ ∧ s.heap.get? q = some ⟨.type "tuple", d2, .seq ys m, l2⟩ ∧
        Lex1 A.in1 s (decide (xs.size < ys.size)) k (xs.toList.zip ys.toList) ∧ R (.ok (.ret (.bool k))) s) :=
  .of_wp fun prog w A R s h => by
    obtain ⟨hp, g, d, tk, os⟩ := s
    obtain ⟨h1, h2, hx, hR⟩ := h
    have f2 := AutoSeq1.sub_tuple_tuple
    wp_walk using wpAny_loadPart' h1, wpAny_loadPart' h2, wpAny_forIn_list _ (fun rest b s' => b.1 = none ∧ s' = ⟨hp, g, d, tk, os⟩ ∧ Lex1 A.in1 ⟨hp, g, d, tk, os⟩ (decide (xs.size < ys.size)) k rest) _
    case turn =>
      rintro ⟨y, x⟩ rest b s' ⟨hb, rfl, e, he, hy, hn⟩
      refine wpAny_bind (he prog w _ _ ?_)
      cases e with
      | true =>
        have z := hy rfl
        wp_walk
        exact ⟨rfl, rfl, z⟩
      | false =>
        have z := hn rfl prog w
        wp_walk using z
        exact ⟨_, rfl, by simpa using hR⟩
    case fin =>
      rintro ⟨c1, c2⟩ s' ⟨hb, rfl, hk⟩
      simp only at hb
      subst hb
      have hk : k = decide (xs.size < ys.size) := hk
      rw [hk] at hR
      wp_walk
      exact ⟨_, rfl, by simpa [Builtin.Tuple.tupleCompareSizes] using hR⟩
    case h => exact ⟨rfl, rfl, hx⟩
theorem rc_lex1 {A : Around} {s : Shared} {p q : Addr} {xs ys : Array Value} {k : Bool} (hl : s.heap.IsTuple p xs) (hb : s.heap.IsTuple q ys) (hu : A.units < cLine) (hx : Lex1 A.in1 s (decide (xs.size < ys.size)) k (xs.toList.zip ys.toList)) :
    RcLt A s (.ref p) (.ref q) k := by
  intro prog w E Q h
  obtain ⟨⟨c1, e1, f1, g1⟩, o1, t1, n, z1⟩ := hl
  obtain ⟨⟨c2, e2, f2, g2⟩, o2, t2, m, z2⟩ := hb
  simp only at t1 t2 z1 z2
  subst t1 t2 z1 z2
  exact richCompare_meets_room (op := .Lt) ⟨_, o1, rfl⟩ ⟨_, o2, rfl⟩ F.slot_tuple_lt F.entry_tuple_lt (F.args_tuple_lt_2 _ _) (tup_lex1 p q xs ys n m e1 e2 g1 g2 k) ⟨o1, o2, hx, (fun z => nomatch z), h⟩ hu
end
mutual
theorem rcG : ∀ (d e : PyData) (A : Around) (s : Shared) (a b : Value) (as bs : List Addr), Reads s.heap a d as → Reads s.heap b e bs → cmpG d e = true → d.plain = true → e.plain = true → d ≠ .none → A.units + min d.depth e.depth < cLine → SeqAt.RcLt A s a b (dataLt d e)
  | .tuple xs, e, A, s, a, b, as, bs, ra, rb, hc, hp, hq, _, hu => by
    obtain ⟨ys, rfl, hs⟩ := jkc hc
    cases ra with
    | @tuple l o vs n _ as₁ a1 a2 a3 a4 =>
      cases rb with
      | @tuple l' o' ws m _ bs₁ b1 b2 b3 b4 =>
        have z1 : vs.size = xs.length := by simpa using SeqAt.ReadsAll.length _ _ _ a4
        have z2 : ws.size = ys.length := by simpa using SeqAt.ReadsAll.length _ _ _ b4
        rw [dataLt_tuple]
        refine rc_lex1 ⟨_, a1, a2, _, a3⟩ ⟨_, b1, b2, _, b3⟩ (SeqAt.room_here hu) ?_
        rw [z1, z2]
        exact rcGs xs ys A.in1 s vs.toList ws.toList _ _ a4 b4 hs (by simpa [PyData.plain] using hp) (by simpa [PyData.plain] using hq) (SeqAt.room_in hu)
  | .none, e, A, s, a, b, as, bs, ra, rb, hc, _, _, hn, hu => absurd rfl hn
  | .bool _, e, A, s, a, b, as, bs, ra, rb, hc, _, _, hn, hu => rcLt_alike _ _ A s a b as bs ra rb (jbk (fun _ z => by cases z) hc) hn hu
  | .int _, e, A, s, a, b, as, bs, ra, rb, hc, _, _, hn, hu => rcLt_alike _ _ A s a b as bs ra rb (jbk (fun _ z => by cases z) hc) hn hu
  | .str _, e, A, s, a, b, as, bs, ra, rb, hc, _, _, hn, hu => rcLt_alike _ _ A s a b as bs ra rb (jbk (fun _ z => by cases z) hc) hn hu
  | .list _, e, A, s, a, b, as, bs, ra, rb, hc, _, _, hn, hu => rcLt_alike _ _ A s a b as bs ra rb (jbk (fun _ z => by cases z) hc) hn hu
  | .dict _, e, A, s, a, b, as, bs, ra, rb, hc, _, _, hn, hu => rcLt_alike _ _ A s a b as bs ra rb (jbk (fun _ z => by cases z) hc) hn hu
theorem rcGs : ∀ (xs ys : List PyData) (A : Around) (s : Shared) (vs ws : List Value) (as bs : List Addr), ReadsAll s.heap vs xs as → ReadsAll s.heap ws ys bs → cmpGs xs ys = true → PyData.plainAll xs = true → PyData.plainAll ys = true →
    A.units + min (PyData.depthAll xs) (PyData.depthAll ys) < cLine → Lex1 A s (decide (xs.length < ys.length)) (lexG (keyToksAll xs) (keyToksAll ys)) (vs.zip ws)
  | [], [], A, s, _, _, _, _, ra, rb, _, _, _, _ => by
    cases ra; cases rb
    exact lex_irrefl (O := itemOrd) _
  | [], y :: ys, A, s, _, _, _, _, ra, rb, _, _, _, _ => by
    cases ra
    rw [List.zip_nil_left]
    show lexG _ _ = _
    rw [toks_all_cons]
    unfold lexG
    simp only [keyToksAll]
    rw [lex_diff (O := itemOrd) (by simp)]
    simp [itemLt]
  | x :: xs, [], A, s, _, _, _, _, ra, rb, _, _, _, _ => by
    cases rb
    rw [List.zip_nil_right]
    show lexG _ _ = _
    rw [toks_all_cons]
    unfold lexG
    simp only [keyToksAll]
    rw [lex_diff (O := itemOrd) (by simp)]
    simp [itemLt]
  | x :: xs, y :: ys, A, s, _, _, _, _, ra, rb, hc, hp, hq, hu => by
    have p := jhs hc
    have p1 : x.plain = true ∧ PyData.plainAll xs = true := by simpa [PyData.plainAll] using hp
    have p2 : y.plain = true ∧ PyData.plainAll ys = true := by simpa [PyData.plainAll] using hq
    cases ra with
    | cons r1 r2 =>
      cases rb with
      | cons q1 q2 =>
        rw [List.zip_cons_cons]
        refine ⟨PyData.eqv x y, SeqAt.eqAt_plain x y A s _ _ _ _ r1 q1 p1.1 p2.1 (SeqAt.room_head hu), fun e => ?_, fun e => ?_⟩
        · rw [ltG_yes p.1 e]
          have ih := rcGs xs ys A s _ _ _ _ r2 q2 (p.2 e) p1.2 p2.2 (SeqAt.room_tail hu)
          simpa only [List.length_cons, Nat.add_lt_add_iff_right] using ih
        · rw [ltG_no p.1 e]
          exact rcG x y A s _ _ _ _ r1 q1 p.1 p1.1 p2.1 (cmpG_non p.1 e) (SeqAt.room_head hu)
end
end Q
namespace Q
open PySem PySem.Spec PyProof.Rows L2 PySem.W PySem.Calls
variable [tbI : Tbl]
include tbI
section
variable {prog : Program} {w : World} {A : Around} {s : Shared}
end
section
variable {prog : Program} {w : World} {A : Around} {E : Value → Shared → Prop} {s : Shared} {β : Type} {vs : List Value} {bs : List β} {enc : β → PyData} {R : Value → β → Prop}
end
section
variable {X : Cx} {K : PySem.W.Frag} {H : Hp} {M : MS} {vs : List V} {ts : List T}
end
end Q
namespace Q
open PySem PySem.Spec PyProof.Rows L2
def bLend (d : Db) : Db := fun ρ => match d (fzE ρ) with
  | .ok (c, _) => .ok (c, ρ)
  | .ex x _ => .ex x ρ
  | .bad => .bad
variable [tbI : Tbl]
include tbI
section
variable {X : Cx} {pv : Pins} {W : WX} {e : Expr} {d : Db}
theorem lend_go {M : MS} {F : List Addr} {σ : Sg} {ρ : Env} {H : Hp} {Q : Bool → Hp → Prop} (S : Sta X.K pv H M F σ ρ) (q : VB X.K X.mg pv σ H M F W Q (bLend d ρ)) : TBd X pv W d σ H Q := by
  refine ⟨fun a => M a ∧ a ∉ F, [], fzE ρ, ⟨S.rep.fzAll (fun a h => h.1) (fun a ha z => z.2 ha), .nil, S.pin⟩, ?_⟩
  have go : ∀ {H' : Hp} {M' : MS} {G : List Addr}, Stp H (fun a => M a ∧ a ∉ F) [] H' M' G → Sta X.K pv H' (back H M M') F σ ρ ∧ Stp H M F H' (back H M M') F := fun {H' M' G} st => by
    have f := jn0 S.rep.own S.rep.noExt st
    exact ⟨⟨S.rep.frm f (fun _ z => nomatch z) (fun _ _ z => nomatch z), S.nd, S.pin⟩, f.any, fun a ha => .inl ha⟩
  unfold bLend at q
  cases e : d (fzE ρ) with
  | bad => rw [e] at q; exact q
  | ex x ρ' =>
    rw [e] at q
    intro cls dd H' M' F' ex S' st
    obtain ⟨g1, g2⟩ := go st
    exact q cls dd H' _ F ex g1 g2
  | ok a =>
    rw [e] at q
    obtain ⟨u, ρ'⟩ := a
    dsimp only at q
    intro H' M' F' S' st
    obtain ⟨g1, g2⟩ := go st
    exact q H' _ F g1 g2
theorem lt_lend (h : LT X pv W e d) : LT X pv W e (bLend d) := weakT h fun σ H Q ⟨M, F, ρ, S, q⟩ => lend_go S q
end
end Q
namespace Q
open PySem PySem.Spec PyProof.Rows L2 PySem.W PySem.Calls
variable [tbI : Tbl]
include tbI
section
variable {prog : Program} {w : World} {A : Around} {E : Value → Shared → Prop} {s : Shared} {β : Type} {vs : List Value} {bs : List β} {enc : β → PyData} {R : Value → β → Prop}
end
section
variable {X : Cx} {K : PySem.W.Frag} {H : Hp} {M : MS} {vs : List V} {ts : List T}
end
end Q
namespace Q
open PySem PySem.Spec PyProof.Rows L2
variable [tbI : Tbl]
include tbI
section
variable {K : PySem.W.Frag} {H : Hp} {M : MS}
end
end Q
namespace Q
open PySem PySem.Spec PyProof.Rows L2
variable [tbI : Tbl]
include tbI
section
variable {X : Cx} {pins : List (Addr × Obj)} {σ : L2.St} {H : Hp} {M : MS} {s : Shared}
end
end Q
namespace Q
open PySem PySem.Spec PyProof.Rows L2
variable [tbI : Tbl]
include tbI
section
variable {P : Program} {w : World} {K : PySem.W.Frag} {mg : Str → Option Value} {base : Heap}
end
section
variable {X : Cx} {pv : Pins} {W : WX} {e : Expr} {d : De}
end
end Q
namespace Q
open PySem PySem.Spec PyProof.Rows L2
variable [tbI : Tbl]
include tbI
section
variable {X : Cx}
end
section
variable {K : PySem.W.Frag} {H : Hp} {M : MS}
end
end Q
namespace Q
open PySem PySem.Spec PyProof.Rows L2
variable [tbI : Tbl]
include tbI
section
variable {X : Cx}
end
section
variable {K : PySem.W.Frag} {H : Hp} {M : MS}
end
end Q
namespace Q
open PySem PySem.Spec PyProof.Rows L2
variable [tbI : Tbl]
include tbI
section
variable {X : Cx} {pv : Pins} {W : WX}
end
end Q
namespace Q
open PySem PySem.Spec PyProof.Rows L2
variable [tbI : Tbl]
include tbI
section
variable {prog : Program} {w : World} {A : Around} {E : Value → Shared → Prop} {s : Shared}
end
section
variable {K : PySem.W.Frag}
end
section
variable {X : Cx} {pv : Pins} {W : WX} {e : Expr} {d : De} {te : TE} {kz : Nat} {p1 p3 pos : Pos} {K : PySem.W.Frag}
end
end Q
namespace Q
open PySem PySem.Spec PyProof.Rows L2
variable [tbI : Tbl]
include tbI
section
variable {prog : Program} {w : World} {A : Around} {E : Value → Shared → Prop} {s : Shared} {K : Type} [DecidableEq K] {knd : KeyKind prog w K}
end
section
variable {K : PySem.W.Frag} {H : Hp} {M : MS} {A : Around} {s : Shared}
end
theorem KV.len {kvs : List (Key × V)} {vs : List (Key × Value)} (r : KV kvs vs) : kvs.length = vs.length := by
  unfold KV at r
  induction r with
  | nil => rfl
  | cons _ _ ih => rw [List.length_cons, List.length_cons, ih]
end Q
namespace Q
open PySem PySem.Spec PyProof.Rows L2 PySem.W PySem.Calls
variable [tbI : Tbl]
include tbI
mutual
def T.toG : T → PyData
  | .tup xs => .tuple (toGs xs)
  | .con xs => .tuple (toGs xs)
  | .lst _ xs => .list (toGs xs)
  | .dic _ _ ks vs => .dict ((ks.map T.toD).zip (toGs vs))
  | .non => .none
  | .bl b => .bool b
  | .int i => .int i
  | .str x => .str x
  | .ins _ _ _ _ => .none
def toGs : List T → List PyData
  | [] => []
  | x :: xs => x.toG :: toGs xs
end
mutual
def T.okG : T → Bool
  | .tup xs => okGs xs
  | .con xs => okGs xs
  | .lst _ xs => okGs xs
  | .dic _ _ _ vs => okGs vs
  | .ins _ _ _ _ => false
  | _ => true
def okGs : List T → Bool
  | [] => true
  | x :: xs => x.okG && okGs xs
end
def DNo (h : Heap) (as : List Addr) : Prop := ∀ a ∈ as, ∀ kvs cs, Reads h (.ref a) (.dict kvs) cs → (a == sysModules) = false
theorem DNo.app {h : Heap} {as bs : List Addr} (x : DNo h as) (y : DNo h bs) : DNo h (as ++ bs) := fun a ha => (List.mem_append.mp ha).elim (x a) (y a)
theorem DNo.left {h : Heap} {as bs : List Addr} (x : DNo h (as ++ bs)) : DNo h as := fun a ha => x a (List.mem_append_left _ ha)
theorem DNo.right {h : Heap} {as bs : List Addr} (x : DNo h (as ++ bs)) : DNo h bs := fun a ha => x a (List.mem_append_right _ ha)
theorem DNo.tail {h : Heap} {a : Addr} {as : List Addr} (x : DNo h (a :: as)) : DNo h as := fun b hb => x b (List.mem_cons_of_mem _ hb)
theorem DNo.lst {h : Heap} {a : Addr} {as : List Addr} {o : Obj} (e : h.get? a = some o) (c : o.cls = .type "list") (x : DNo h as) : DNo h (a :: as) := fun b hb kvs cs r => by
  rcases List.mem_cons.mp hb with z | z
  · subst z
    cases r with
    | dict h1 h2 _ _ _ => rw [e] at h1; cases h1; rw [c] at h2; exact absurd h2 (by decide)
  · exact x b z kvs cs r
section
variable {P : Program} {w : World} {h : Heap}
mutual
theorem rk_of {v : Value} {d : PyData} {as : List Addr} (r : Reads h v d as) : d.showable = true → DNo h as → d.shown.length ≤ sizeLine → ∃ bs, ReadAtMost h d.depth bs ∧ ReprK P w bs h d.depth v d.shown :=
  match r with
  | .none => fun _ _ _ => ⟨[], (fun _ z => nomatch z), by simp only [PyData.shown]; exact .of_is ReprIs.none _ _ _⟩
  | .bool b => fun _ _ _ => ⟨[], (fun _ z => nomatch z), by simp only [PyData.shown]; exact .of_is (ReprIs.bool b) _ _ _⟩
  | .int i t => fun q _ _ => ⟨[], (fun _ z => nomatch z), by simp only [PyData.shown]; exact .of_is (ReprIs.int t (by simpa [PyData.showable] using q)) _ _ _⟩
  | .str x t => fun _ _ z => ⟨[], (fun _ z => nomatch z), by simp only [PyData.shown] at z ⊢; exact .of_is (ReprIs.str x t z) _ _ _⟩
  | .list (a := a) (vs := vs) (xs := xs) e1 e2 e3 e4 => fun q dn z => by
    have rr : Reads h (.ref a) (.list xs) _ := .list e1 e2 e3 e4
    simp only [PyData.showable] at q
    simp only [PyData.shown] at z ⊢
    obtain ⟨bs, k1, k2⟩ := jn3 e4 q dn.tail fun t ht => Nat.le_trans (listText_mem_le ht) z
    have dl : PyData.depthAll xs < (PyData.list xs).depth := by simp only [PyData.depth]; omega
    refine ⟨a :: bs, .cons rr (Nat.le_of_lt dl) k1, ?_⟩
    have no := not_mem_of_deeper rr dl k1
    simp only [PyData.depth]
    rcases vs with ⟨_ | ⟨y, ys⟩⟩
    · have e4 : ReadsAll h [] xs _ := e4
      cases e4
      simp only [PyData.shownAll, listText_nil]
      exact .listEmpty e1 e2 e3
    · exact .list e1 e2 e3 no (by have := k2.length_eq; simpa using this) fun i y hy => k2.item i y (by simpa using hy)
  | .tuple (a := a) (xs := xs) e1 e2 e3 e4 => fun q dn z => by
    have rr : Reads h (.ref a) (.tuple xs) _ := .tuple e1 e2 e3 e4
    simp only [PyData.showable] at q
    simp only [PyData.shown] at z ⊢
    obtain ⟨bs, k1, k2⟩ := jn3 e4 q dn fun t ht => Nat.le_trans (tupleText_mem_le ht) z
    have dl : PyData.depthAll xs < (PyData.tuple xs).depth := by simp only [PyData.depth]; omega
    refine ⟨a :: bs, .cons rr (Nat.le_of_lt dl) k1, ?_⟩
    simp only [PyData.depth]
    exact .tuple e1 e2 e3 (not_mem_of_deeper rr dl k1) k2
  | .dict (a := a) (es := es) (kvs := kvs) e1 e2 e3 e4 e5 => fun q dn z => by
    have rr : Reads h (.ref a) (.dict kvs) _ := .dict e1 e2 e3 e4 e5
    have ny := dn a List.mem_cons_self _ _ rr
    simp only [PyData.showable] at q
    simp only [PyData.shown] at z ⊢
    obtain ⟨q1, q2⟩ := PyData.showableKv_split kvs q
    have dn2 : DNo h (_ ++ _) := dn.tail
    obtain ⟨b1, k1, k2⟩ := jn3 e4 q1 dn2.left fun t ht => by
      obtain ⟨p, hp, hl⟩ := PyData.shownKv_key_le kvs t ht
      exact Nat.le_trans (Nat.le_trans hl (dictText_mem_le hp)) z
    obtain ⟨b2, k3, k4⟩ := jn3 e5 q2 dn2.right fun t ht => by
      obtain ⟨p, hp, hl⟩ := PyData.shownKv_val_le kvs t ht
      exact Nat.le_trans (Nat.le_trans hl (dictText_mem_le hp)) z
    have kk := (k1.mono (PyData.depthAll_keys_le kvs)).append (k3.mono (PyData.depthAll_vals_le kvs))
    have dl : PyData.depthKv kvs < (PyData.dict kvs).depth := by simp only [PyData.depth]; omega
    refine ⟨a :: (b1 ++ b2), .cons rr (Nat.le_of_lt dl) kk, ?_⟩
    have no := not_mem_of_deeper rr dl kk
    simp only [PyData.depth, PyData.shownKv_eq]
    exact .dict e1 e2 e3 ny no (.of_two es.toList _ _ (k2.more_le (fun b hb => List.mem_append_left _ hb) (PyData.depthAll_keys_le kvs)) (k4.more_le (fun b hb => List.mem_append_right _ hb) (PyData.depthAll_vals_le kvs)))
theorem jn3 {vs : List Value} {ds : List PyData} {as : List Addr} (r : ReadsAll h vs ds as) : PyData.showableAll ds = true → DNo h as → (∀ t ∈ PyData.shownAll ds, t.length ≤ sizeLine) → ∃ bs, ReadAtMost h (PyData.depthAll ds) bs ∧ ReprAllK P w bs h (PyData.depthAll ds) vs (PyData.shownAll ds) :=
  match r with
  | .nil => fun _ _ _ => ⟨[], (fun _ z => nomatch z), by simp only [PyData.shownAll]; exact .nil⟩
  | .cons (d := d) (ds := ds) r1 r2 => fun q dn z => by
    simp only [PyData.showableAll, Bool.and_eq_true] at q
    simp only [PyData.shownAll] at z ⊢
    obtain ⟨b1, k1, k2⟩ := rk_of r1 q.1 dn.left (z _ List.mem_cons_self)
    obtain ⟨b2, k3, k4⟩ := jn3 r2 q.2 dn.right fun t ht => z t (List.mem_cons_of_mem _ ht)
    have m1 : d.depth ≤ PyData.depthAll (d :: ds) := by simp only [PyData.depthAll]; exact Nat.le_max_left _ _
    have m2 : PyData.depthAll ds ≤ PyData.depthAll (d :: ds) := by simp only [PyData.depthAll]; exact Nat.le_max_right _ _
    exact ⟨b1 ++ b2, (k1.mono m1).append (k3.mono m2), .cons ((k2.more fun b hb => List.mem_append_left _ hb).level_le m1) (k4.more_le (fun b hb => List.mem_append_right _ hb) m2)⟩
end
end
section
variable {X : Cx} {pins : List (Addr × Obj)} {σ : L2.St} {H : Hp} {M : MS} {s : Shared}
theorem jlq : ∀ (ks : List Key) (us : List Value), Vals (ks.map kV) us → ReadsAll s.heap us (toDs (ks.map keyT)) []
  | [], _, .nil => .nil
  | .inl i :: ks, _, .cons r rs => by obtain ⟨t, rfl⟩ := r; exact .cons (as := []) (bs := []) (.int i t) (jlq ks _ rs)
  | .inr x :: ks, _, .cons r rs => by obtain ⟨t, rfl⟩ := r; exact .cons (as := []) (bs := []) (.str x t) (jlq ks _ rs)
theorem jn4 (I : Inv X pins σ H s) : ∀ {kvs : List (List Key × V)} {xs : List (List Key × Addr × Value)}, Paired (fun (p : List Key × V) (q : List Key × Addr × Value) => p.1 = q.1 ∧ H q.2.1 = some (.tup (p.1.map kV)) ∧ RelV p.2 q.2.2) kvs xs →
    ReadsAll s.heap (xs.map fun x => Value.ref x.2.1) ((kvs.map fun kv => T.tup (kv.1.map keyT)).map T.toD) []
  | _, _, .nil => .nil
  | _, _, .cons (a := p) h t => by
    obtain ⟨_, h2, _⟩ := h
    obtain ⟨its, vs, ⟨o, ho, hc, n, hd⟩, _⟩ := I.tuple (.inl (Rd.of h2))
    exact .cons (as := []) (bs := []) (.tuple ho hc hd (jlq _ _ vs)) (jn4 I t)
theorem vt_vals : ∀ {kvs : List (List Key × V)} {xs : List (List Key × Addr × Value)}, Paired (fun (p : List Key × V) (q : List Key × Addr × Value) => p.1 = q.1 ∧ H q.2.1 = some (.tup (p.1.map kV)) ∧ RelV p.2 q.2.2) kvs xs → Vals (kvs.map Prod.snd) (xs.map fun x => x.2.2)
  | _, _, .nil => .nil
  | _, _, .cons h t => .cons h.2.2 (vt_vals t)
theorem zip_of {as bs : List PyData} (h : as.length = bs.length) : (as.zip bs).map (·.1) = as ∧ (as.zip bs).map (·.2) = bs := ⟨List.map_fst_zip (by omega), List.map_snd_zip (by omega)⟩
theorem rd_dk (I : Inv X pins σ H s) {a : Addr} {kvs : List (Key × V)} {ts : List T} (e : Rd H a (.dK kvs)) (k : ∀ us, Vals (kvs.map Prod.snd) us → ∃ as, ReadsAll s.heap us (toGs ts) as ∧ DNo s.heap as) :
    ∃ as, Reads s.heap (.ref a) (T.dic false false (kvs.map fun kv => keyT kv.1) ts).toG as ∧ DNo s.heap as := by
  obtain ⟨_, lo, vs, hkv, o, es, ep, ho, hx, hd, _, hp, _⟩ := dk_rd I.hok e
  have k1 := rd_keys (s := s) hp hkv
  obtain ⟨bs, k2, k3⟩ := k _ (rd_vals hp hkv)
  have hl : ((kvs.map fun kv => keyT kv.1).map T.toD).length = (toGs ts).length := by
    rw [← je9 k1, ← je9 k2, List.length_map, List.length_map]
  obtain ⟨z1, z2⟩ := zip_of hl
  rw [T.toG]
  refine ⟨_, .dict ho hx.1 hd (by rw [z1]; exact k1) (by rw [z2]; exact k2), fun b hb kvs2 cs r => ?_⟩
  rcases List.mem_cons.mp hb with z | z
  · rw [z]; exact lo
  · exact k3 b z _ _ r
theorem rd_dt (I : Inv X pins σ H s) {a : Addr} {kvs : List (List Key × V)} {ts : List T} (e : H a = some (.dT kvs)) (k : ∀ us, Vals (kvs.map Prod.snd) us → ∃ as, ReadsAll s.heap us (toGs ts) as ∧ DNo s.heap as) :
    ∃ as, Reads s.heap (.ref a) (T.dic false true (kvs.map fun kv => T.tup (kv.1.map keyT)) ts).toG as ∧ DNo s.heap as := by
  obtain ⟨_, lo, xs, pr, o, es, ep, ho, hx, hd, he, _⟩ := (show ObjOk X.prog X.w H s.heap a (.dT kvs) from I.hok a _ e)
  have k1 := jn4 I pr
  obtain ⟨bs, k2, k3⟩ := k _ (vt_vals pr)
  have e1 : es.toList.map (·.key) = xs.map fun x => Value.ref x.2.1 := by rw [he, List.map_map]; rfl
  have e2 : es.toList.map (·.val) = xs.map fun x => x.2.2 := by rw [he, List.map_map]; rfl
  have hl : ((kvs.map fun kv => T.tup (kv.1.map keyT)).map T.toD).length = (toGs ts).length := by
    rw [← je9 k1, ← je9 k2, List.length_map, List.length_map]
  obtain ⟨z1, z2⟩ := zip_of hl
  rw [T.toG]
  refine ⟨_, .dict ho hx.1 hd (by rw [z1, e1]; exact k1) (by rw [z2, e2]; exact k2), fun b hb kvs2 cs r => ?_⟩
  rcases List.mem_cons.mp hb with z | z
  · rw [z]; exact lo
  · exact k3 b z _ _ r
mutual
theorem rd_G (I : Inv X pins σ H s) {fp : List Addr} {v : V} {t : T} (r : Rep X.K H M fp v t) : t.okG = true → ∀ u, RelV v u → ∃ as, Reads s.heap u t.toG as ∧ DNo s.heap as :=
  match r with
  | .non => fun _ _ z => by cases z; exact ⟨_, .none, (fun _ h => nomatch h)⟩
  | .bl b => fun _ _ z => by cases z; exact ⟨_, .bool b, (fun _ h => nomatch h)⟩
  | .int i => fun _ _ z => by obtain ⟨t, rfl⟩ := z; exact ⟨_, .int i t, (fun _ h => nomatch h)⟩
  | .str x => fun _ _ z => by obtain ⟨t, rfl⟩ := z; exact ⟨_, .str x t, (fun _ h => nomatch h)⟩
  | .tup e rs => fun ok u z => by
    cases z
    obtain ⟨its, vs, ⟨o, ho, hc, n, hd⟩, _⟩ := I.tuple (.inl (Rd.of e))
    rw [T.okG] at ok
    obtain ⟨as, h1, h2⟩ := rds_G I rs ok _ vs
    rw [T.toG]
    exact ⟨as, .tuple ho hc hd h1, h2⟩
  | .con e rs => fun ok u z => by
    cases z
    obtain ⟨its, vs, ⟨o, ho, hc, n, hd⟩, _⟩ := I.tuple e.sq
    rw [T.okG] at ok
    obtain ⟨as, h1, h2⟩ := rds_G I rs ok _ vs
    rw [T.toG]
    exact ⟨as, .tuple ho hc hd h1, h2⟩
  | .lstF e _ rs => fun ok u z => by
    cases z
    obtain ⟨its, vs, ⟨o, n, ho, hc, _, hd⟩, _⟩ := I.list (.inl e)
    rw [T.okG] at ok
    obtain ⟨as, h1, h2⟩ := rds_G I rs ok _ vs
    rw [T.toG]
    exact ⟨_, .list ho hc hd h1, .lst ho hc h2⟩
  | .lstK e rs => fun ok u z => by
    cases z
    obtain ⟨its, vs, ⟨o, n, ho, hc, _, hd⟩, _⟩ := I.list (.inr e)
    rw [T.okG] at ok
    obtain ⟨as, h1, h2⟩ := rds_G I rs ok _ vs
    rw [T.toG]
    exact ⟨_, .list ho hc hd h1, .lst ho hc h2⟩
  | .lstO e _ rs => fun ok u z => by
    cases z
    obtain ⟨its, vs, ⟨o, n, ho, hc, _, hd⟩, _⟩ := I.list (.inl (.inl e))
    rw [T.okG] at ok
    obtain ⟨as, h1, h2⟩ := rds_G I rs ok _ vs
    rw [T.toG]
    exact ⟨_, .list ho hc hd h1, .lst ho hc h2⟩
  | .dKF e _ rs => fun ok u z => by
    cases z
    rw [T.okG] at ok
    exact rd_dk I e (fun us vs => rds_G I rs ok us vs)
  | .dKO e _ rs => fun ok u z => by
    cases z
    rw [T.okG] at ok
    exact rd_dk I (.inl e) (fun us vs => rds_G I rs ok us vs)
  | .dTF e _ rs => fun ok u z => by
    cases z
    rw [T.okG] at ok
    exact rd_dt I e (fun us vs => rds_G I rs ok us vs)
  | .dTO e _ rs => fun ok u z => by
    cases z
    rw [T.okG] at ok
    exact rd_dt I e (fun us vs => rds_G I rs ok us vs)
  | .exn _ _ _ => fun ok => by rw [T.okG] at ok; cases ok
  | .exl _ _ _ _ => fun ok => by rw [T.okG] at ok; cases ok
  | .insF _ _ _ _ => fun ok => by rw [T.okG] at ok; cases ok
  | .insO _ _ _ _ => fun ok => by rw [T.okG] at ok; cases ok
  | .hol _ => fun ok => by rw [T.okG] at ok; cases ok
  | .mrk _ _ => fun ok => by rw [T.okG] at ok; cases ok
theorem rds_G (I : Inv X pins σ H s) {fp : List Addr} {vs : List V} {ts : List T} (r : Reps X.K H M fp vs ts) : okGs ts = true → ∀ us, Vals vs us → ∃ as, ReadsAll s.heap us (toGs ts) as ∧ DNo s.heap as :=
  match r with
  | .nil => fun _ _ z => by cases z; exact ⟨_, .nil, (fun _ h => nomatch h)⟩
  | .cons r1 r2 => fun ok us z => by
    rw [okGs, Bool.and_eq_true] at ok
    cases z with
    | cons z1 z2 =>
      obtain ⟨as, h1, h2⟩ := rd_G I r1 ok.1 _ z1
      obtain ⟨bs, h3, h4⟩ := rds_G I r2 ok.2 _ z2
      rw [toGs]
      exact ⟨_, .cons h1 h3, h2.app h4⟩
end
end
end Q
namespace Q
open PySem PySem.Spec PyProof.Rows L2 PySem.W PySem.Calls
variable [tbI : Tbl]
include tbI
section
variable {prog : Program} {w : World} {A : Around} {E : Value → Shared → Prop} {s : Shared}
end
section
variable {X : Cx} {pv : Pins} {W : WX} {pins : List (Addr × Obj)} {σ : L2.St} {H : Hp} {M : MS} {s : Shared}
variable {e : Expr} {es : List Expr} {pos p p2 kp : Pos} {d : De}
end
end Q
namespace Q
open PySem PySem.Spec PyProof.Rows L2 PySem.W PySem.Calls
variable [tbI : Tbl]
include tbI
section
variable {X : Cx} {K : PySem.W.Frag} {H : Hp} {M : MS} {vs : List V} {ts : List T} {fv : List Addr}
variable {pv : Pins} {W : WX} {o e : Expr} {apos pos : Pos} {to te : TE} {ro re : Dr}
end
end Q
namespace Q
open PySem PySem.Spec PyProof.Rows L2
variable [tbI : Tbl]
include tbI
section
variable {X : Cx} {pv : Pins} {W : WX} {e o : Expr} {es : List Expr} {apos cpos : Pos} {d : De} {ds : Da}
variable {dct : Bool} {id : String} {name : Str} {rr : V → List V → Hp → VK → Prop} {f : T → List T → Option (T × T)}
end
end Q
namespace Q
open PySem PySem.Spec PyProof.Rows L2
variable [tbI : Tbl]
include tbI
section
variable {prog : Program} {w : World} {A : Around} {E : Value → Shared → Prop} {s : Shared}
end
end Q
namespace Q
open PySem PySem.Spec PyProof.Rows L2 PySem.W
variable [tbI : Tbl]
include tbI
section
variable {X : Cx} {pv : Pins} {W : WX} {e a b o : Expr} {es : List Expr} {pos apos : Pos} {d da db : De} {r s : Dr} {ds : Da}
variable {K : PySem.W.Frag} {mg : Str → Option Value} {H H1 H2 : Hp} {M M1 M2 : MS} {F F1 F2 G fv fp : List Addr} {σ : Sg} {ρ ρ1 : Env} {vs : List V} {ts : List T}
end
end Q
namespace Q
open PySem PySem.Spec PyProof.Rows L2 PySem.W
variable [tbI : Tbl]
include tbI
section
variable {prog : Program} {w : World} {K : Type} [DecidableEq K] {knd : KeyKind prog w K} {A : Around} {E : Value → Shared → Prop} {d : Addr} {kvs : List (K × Value)} {ep : Nat} {z : Str} {t : Tok}
end
end Q
namespace Q
open PySem PySem.Spec PyProof.Rows L2 PySem.W
variable [tbI : Tbl]
include tbI
section
variable {X : Cx}
end
section
variable {X : Cx} {pv : Pins} {W : WX} {x e : Expr} {apos mpos pos : Pos} {rx r : Dr}
end
end Q
namespace Q
open PySem PySem.Spec PyProof.Rows L2 PySem.W
variable [tbI : Tbl]
include tbI
section
variable {prog : Program} {w : World} {A : Around} {E : Value → Shared → Prop} {s : Shared}
end
section
variable {X : Cx} {pv : Pins} {W : WX} {e k : Expr} {r rk : Dr} {te tk : TE} {p3 pos : Pos} {K : PySem.W.Frag}
end
end Q
namespace Q
open PySem PySem.Spec PyProof.Rows L2
variable [tbI : Tbl]
include tbI
section
variable {X : Cx} {pv : Pins} {W : WX} {a b : Expr} {pos : Pos} {da : De} {rb : Dr}
end
end Q
namespace Q
open PySem PySem.Spec PyProof.Rows L2 PySem.W
variable [tbI : Tbl]
include tbI
section
variable {X : Cx} {pv : Pins} {W : WX} {x e : Expr} {apos mpos pos : Pos} {rx r : Dr}
end
section
variable {X : Cx} {pv : Pins} {W : WX} {a b : Expr} {pos : Pos} {da : De} {rb : Dr}
end
end Q
namespace Q
open PySem PySem.Spec PyProof.Rows L2 PySem.W
variable [tbI : Tbl]
include tbI
section
variable {X : Cx} {pv : Pins} {W : WX} {k v : Expr} {rk rv : Dr} {pos : Pos}
end
section
variable {X : Cx} {pv : Pins} {W : WX} {a : Expr} {b : Expr} {pos : Pos} {ra rb : Dr}
end
end Q
namespace Q
open PySem PySem.Spec PyProof.Rows L2 PySem.W
variable [tbI : Tbl]
include tbI
section
variable {X : Cx} {pv : Pins} {pos : Pos}
end
end Q
namespace Q
open PySem PySem.Spec PyProof.Rows L2 PySem.W
variable [tbI : Tbl]
include tbI
def jg2 : List T → Option T
  | [.str a, .str b] => if (b.length == 0) = false ∧ a.length + 2 ≤ sizeLine then some (.lst true ((Txt.split a b).map .str)) else none
  | _ => none
theorem jmo {K : PySem.W.Frag} {H : Hp} {M : MS} : ∀ ys : List Str, Reps K H M [] (ys.map V.str) (ys.map T.str)
  | [] => .nil
  | y :: ys => .cons (.str y) (jmo ys)
theorem o_split {K : PySem.W.Frag} : BOp K (rM1 fun x xs H Q => ∃ a b, x = .str a ∧ xs = [.str b] ∧ (b.length == 0) = false ∧ a.length + 2 ≤ sizeLine ∧ rNewStrs (Txt.split a b) H Q) jg2 := fun H M vs ts t Q r e q => by
  unfold jg2 at e
  split at e
  · rename_i a b
    split at e
    · rename_i c
      cases e
      obtain ⟨v, w, fp, fq, rfl, r1, r2⟩ := rb2 r
      have e1 := (jdp r1).1
      have e2 := (jdp r2).1
      subst e1 e2
      refine ⟨⟨a, rfl⟩, a, b, rfl, rfl, c.1, c.2, fun p hp => ?_⟩
      obtain ⟨g1, g2, g3⟩ := jkw (M := M) hp (jmo (Txt.split a b)) .nil
      exact q _ _ _ _ g1 g2 g3
    · cases e
  · cases e
theorem jhe : ∀ t us u, jg2 (t :: us) = some u → ∃ z, t = .str z := fun t us u e => by
  unfold jg2 at e
  split at e
  · rename_i h
    cases h
    exact ⟨_, rfl⟩
  · cases e
def fIntS : List T → Option T
  | [.str a] => if a.length ≤ 640 then (PySem.intText? a).map .int else none
  | _ => none
theorem o_intS {K : PySem.W.Frag} : ROp K (fun xs H Q => ∃ a n, xs = [.str a] ∧ PySem.intText? a = some n ∧ a.length ≤ 640 ∧ Q (.int n) H) fIntS := fun H M vs ts t Q r e q => by
  unfold fIntS at e
  split at e
  · split at e
    · rename_i a c
      obtain ⟨n, e1, rfl⟩ := Option.map_eq_some_iff.mp e
      obtain ⟨v, fp, rfl, r1⟩ := rb1 r
      have e2 := (jdp r1).1
      subst e2
      exact ⟨a, n, rfl, e1, c, q _ [] (.int n)⟩
    · cases e
  · cases e
end Q
namespace Q
open PySem PySem.Spec PyProof.Rows L2 PySem.W
variable [tbI : Tbl]
include tbI
end Q
namespace Q
open PySem PySem.Spec PyProof.Rows L2
variable [tbI : Tbl]
include tbI
section
variable {X : Cx} {pv : Pins} {W : WX} {tg iter e : Expr} {sts : List Stmt} {pos cpos apos tpos py : Pos} {elts : List Expr} {kk : Nat} {x : Ds} {g : T → Env → Option Env} {i : Nat} {ds : Da} {z : Str}
end
end Q
namespace Q
open PySem PySem.Spec PyProof.Rows L2 PySem.W PySem.Calls
variable [tbI : Tbl]
include tbI
section
variable {X : Cx} {pv : Pins} {W : WX} {e : Expr} {p p2 pos pos2 : Pos} {r : Dr}
end
end Q
namespace Q
open PySem PySem.Spec PyProof.Rows L2
variable [tbI : Tbl]
include tbI
section
variable {z TI TO i1 i2 l1 l2 d : Addr} {xs ys : Array Value} {h h' : Heap} {i : Nat}
def ZSt (z TI TO i1 i2 l1 l2 d : Addr) (xs ys : Array Value) (i : Nat) (h : Heap) : Prop :=
  PySem.IsPair h TI (.ref i1) (.ref i2) ∧ h.IsListIter i1 l1 i ∧ h.IsListIter i2 l2 i ∧ h.IsList l1 xs ∧ h.IsList l2 ys ∧
    ((PySem.IsZip h z TI TO .none ∧ ∃ a b, PySem.IsPair h TO a b) ∨ ∃ T f oT, PySem.IsZipHeld h z TI TO T f ∧ h.get? T = some oT ∧ T ≠ z ∧ T ≠ i1 ∧ T ≠ i2 ∧ T ≠ d)
structure ZOff (z TI TO i1 i2 l1 l2 d : Addr) : Prop where
  z : z ≠ d
  TI : TI ≠ d
  TO : TO ≠ d
  i1 : i1 ≠ d
  i2 : i2 ≠ d
  l1 : l1 ≠ d
  l2 : l2 ≠ d
omit tbI in
theorem ZSt.frame (O : ZOff z TI TO i1 i2 l1 l2 d) (st : ZSt z TI TO i1 i2 l1 l2 d xs ys i h) (hk : ∀ b o, b ≠ d → h.get? b = some o → h'.get? b = some o) : ZSt z TI TO i1 i2 l1 l2 d xs ys i h' := by
  obtain ⟨hTI, h1, h2, hl1, hl2, hz⟩ := st
  refine ⟨hk _ _ O.TI hTI, h1.at fun o e => hk _ o O.i1 e, h2.at fun o e => hk _ o O.i2 e, hl1.at fun o e => hk _ o O.l1 e, hl2.at fun o e => hk _ o O.l2 e, ?_⟩
  rcases hz with ⟨hz, a, b, hTO⟩ | ⟨T, f, oT, hz, hT, r1, r2, r3, r4⟩
  · exact .inl ⟨hk _ _ O.z hz, a, b, hk _ _ O.TO hTO⟩
  · exact .inr ⟨T, f, oT, hk _ _ O.z hz, hk _ _ r4 hT, r1, r2, r3, r4⟩
structure ZAcc (z TO i1 i2 d : Addr) (xs ys : Array Value) (h0 h : Heap) (acc : Array Value) (i : Nat) : Prop where
  size : acc.size = i
  at_ : ∀ j, j < i → ∃ T x y, acc[j]? = some (Value.ref T) ∧ xs[j]? = some x ∧ ys[j]? = some y ∧ PySem.IsPair h T x y ∧ h0.get? T = none ∧ T ≠ z ∧ T ≠ TO ∧ T ≠ i1 ∧ T ≠ i2 ∧ T ≠ d
  apart : ∀ (j k : Nat) (T : Addr), acc[j]? = some (Value.ref T) → acc[k]? = some (Value.ref T) → j = k
omit tbI in
theorem ZAcc.frame {TO z i1 i2 : Addr} {h0 : Heap} {acc : Array Value} (a : ZAcc z TO i1 i2 d xs ys h0 h acc i) (hk : ∀ b o, b ≠ z → b ≠ TO → b ≠ i1 → b ≠ i2 → b ≠ d → h.get? b = some o → h'.get? b = some o) : ZAcc z TO i1 i2 d xs ys h0 h' acc i :=
  ⟨a.size, fun j hj => by
    obtain ⟨T, x, y, e1, e2, e3, e4, n0, n1, n2, n3, n4, n5⟩ := a.at_ j hj
    exact ⟨T, x, y, e1, e2, e3, hk T _ n1 n2 n3 n4 n5 e4, n0, n1, n2, n3, n4, n5⟩, a.apart⟩
end
section
variable {prog : Program} {w : World} {A : Around} {E : Value → Shared → Prop} {R : Result → Shared → Prop} {z TI TO i1 i2 l1 l2 S : Addr} {xs ys : Array Value} {s : Shared} {i : Nat}
end
end Q
namespace Q
open PySem PySem.Spec PyProof.Rows L2
variable [tbI : Tbl]
include tbI
section
variable {prog : Program} {w : World} {A : Around} {E : Value → Shared → Prop} {R : Result → Shared → Prop} {z TI TO i1 i2 l1 l2 S : Addr} {xs ys : Array Value} {s : Shared}
end
end Q
namespace Q
open PySem PySem.Spec PyProof.Rows L2
variable [tbI : Tbl]
include tbI
section
variable {H : Hp}
end
end Q
namespace Q
open PySem PySem.Spec PyProof.Rows L2 PySem.W
variable [tbI : Tbl]
include tbI
section
variable {X : Cx} {pv : Pins} {W : WX} {e e2 : Expr} {p p2 pos pos2 : Pos} {r r2 : Dr}
end
end Q
namespace Q
open PySem PySem.Spec PyProof.Rows L2 PySem.W
variable [tbI : Tbl]
include tbI
section
variable {X : Cx} {pv : Pins} {W : WX} {k v : Expr} {dk dv : De} {pos : Pos}
end
section
variable {X : Cx} {pv : Pins} {W : WX} {e e2 : Expr} {p p2 pos pos2 : Pos} {ds : Da}
end
end Q
namespace Q
open PySem PySem.Spec PyProof.Rows L2
variable [tbI : Tbl]
include tbI
section
variable {X : Cx} {pv : Pins} {W : WX} {e : Expr} {es : List Expr} {ta : TA} {p p' p1 p2 pos pos' : Pos} {cn : Str} {D C : Addr} {r : Dr}
structure PlainA (X : Cx) (e : Expr) (es : List Expr) (pos : Pos) : Prop where
  st : starEach (e :: es) X.env = (false, eval e X.env) :: starEach es X.env
  pl : (backTo pos (starEach es X.env)).any (·.1) = false
def spInit (K : PySem.W.Frag) (C : Addr) : Sp := fun vs H Q _ => ∃ (a : Addr) (n : V), vs = [.ref a, n] ∧ OexC K C ∧ PySem.W.findIn K (.ref C) "line" = some none ∧ H a = some (exo a C none) ∧
  ∀ d, H d = none → d ≠ a → Q .non (upd (upd H d (exd d [("line", n)])) a (exo a C (some d)))
structure XBase (K : PySem.W.Frag) (mg : Str → Option Value) (cn : Str) (D : Addr) : Prop where
  gm : mg cn = some (.ref D)
  sg : PySem.W.specialIn K (.ref D) "__getattribute__" = some (some (.builtin "type.__getattribute__"))
  rd : PySem.W.readsIn K D (.type "type") = true
  vV : PySem.W.findCls K (.ref D) (.type "type") "__init__" = some (.val (.builtin "ValueError.__init__"))
end
section
variable {P : Program} {w : World} {K : PySem.W.Frag} {mg : Str → Option Value} {base : Heap} {C D f : Addr} {fd : FuncData} {st : Stmt} {qual m : Str} {j : Nat} {p1 p2 p3 p4 p5 p6 p7 p8 p9 p10 : Pos}
end
end Q
namespace Q
open PySem PySem.Spec PyProof.Rows L2
variable [tbI : Tbl]
include tbI
structure XRl (P : Program) (w : World) (K : PySem.W.Frag) (mg : Str → Option Value) (base : Heap) (c : Str) (C : Addr) : Prop where
  gC : mg c = some (.ref C)
  T : OexC K C
  nl : PySem.W.findIn K (.ref C) "line" = some none
  ex : ∃ (fI : Addr) (fd : FuncData), PySem.W.findIn K (.ref C) "__init__" = some (some (.ref fI)) ∧ PySem.W.typeIn K (.ref fI) = some (.type "function") ∧ FnOk P w K mg base CX0 1 fI fd ["self", "line"] (spInit K C) ∧ Binds K fd ["self", "line"] []
section
variable {X : Cx} {pv : Pins} {W : WX} {e : Expr} {r : Dr} {p pos pos' : Pos} {x : Str} {C : Addr}
end
end Q
namespace Q
open PySem PySem.Spec PyProof.Rows L2
variable [tbI : Tbl]
include tbI
structure XLn (K : PySem.W.Frag) (C : Addr) : Prop where
  ex : ExcC K C
  nl : PySem.W.findIn K (.ref C) "line" = some none
section
variable {X : Cx} {pv : Pins} {W : WX} {e : Expr} {es : List Expr} {r : Dr} {p p2 pos : Pos} {L ns : List Str}
end
end Q
namespace Q
open PySem PySem.Spec PyProof.Rows L2
variable [tbI : Tbl]
include tbI
section
variable {P : Program} {w : World} {K : PySem.W.Frag} {mg : Str → Option Value} {base : Heap}
end
end Q
namespace Q
open PySem PySem.Spec PyProof.Rows L2
variable [tbI : Tbl]
include tbI
section
variable {X : Cx} {pv : Pins} {W : WX} {e h : Expr} {pos p2 : Pos} {d dh : De}
end
end Q
namespace Q
open PySem PySem.Spec PyProof.Rows L2
variable [tbI : Tbl]
include tbI
section
variable {X : Cx} {pv : Pins} {W : WX} {a b c : Expr} {pos : Pos} {da db : De} {u : Dr}
end
end Q
namespace Q
open PySem PySem.Spec PyProof.Rows L2
variable [tbI : Tbl]
include tbI
section
variable {X : Cx}
end
end Q
namespace Q
open PySem PySem.Spec PyProof.Rows L2
variable [tbI : Tbl]
include tbI
section
variable {X : Cx} {e : Expr} {es : List Expr} {te : TE} {t t' : TA} {st : Stmt} {rest : List Stmt} {u u' : TS}
end
section
variable {X : Cx} {pv : Pins} {W : WX} {e o a : Expr} {es : List Expr} {d da db : De} {ds : Da} {lk : List (Option Nat)} {st : Stmt} {rest : List Stmt} {x y : Ds}
end
end Q
namespace Q
open PySem PySem.Spec PyProof.Rows L2
variable [tbI : Tbl]
include tbI
section
variable {X : Cx}
end
section
variable {K : PySem.W.Frag} {H : Hp} {M : MS} {fp : List Addr}
end
end Q
namespace Q
open PySem PySem.Spec PyProof.Rows L2
variable [tbI : Tbl]
include tbI
def mk (j z : Int) (t : T) : T := .ins false ("" : Str) [] [.int j, .int z, t]
def T.stp : T → Bool
  | .int _ => true
  | .str _ => true
  | .tup _ => true
  | _ => false
def T.obj : T → Bool
  | .non => false
  | .bl _ => false
  | .int _ => false
  | .str _ => false
  | _ => true
section
variable {X : Cx} {pv : Pins} {W : WX} {K : PySem.W.Frag} {mg : Str → Option Value} {H H1 H2 : Hp} {M M1 M2 : MS} {F F1 F2 G fv fp : List Addr} {σ : Sg} {ρ ρ1 ρ' : Env} {D : Ends} {x y : Ds} {st : Stmt} {i s : Nat} {j z : Int} {ps : List T}
variable {e a b : Expr} {sts rest : List Stmt} {pos np : Pos}
theorem AtV.app {v y z : V} {ps qs : List T} (h : AtV H v ps y) (s : AtV H y qs z) : AtV H v (ps ++ qs) z := by
  induction h with
  | nil v => exact s
  | cons a _ ih => exact .cons a (ih s)
end
end Q
namespace Q
open PySem PySem.Spec PyProof.Rows L2
variable [tbI : Tbl]
include tbI
section
variable {X : Cx} {pv : Pins} {W : WX} {K : PySem.W.Frag} {H H1 H2 : Hp} {M M1 M2 : MS} {F F1 F2 G fv fp : List Addr} {σ : Sg} {ρ ρ1 ρ' : Env} {D : Ends} {i s : Nat}
variable {e a b elt tg : Expr} {ifs : List Expr} {pos np apos cpos : Pos} {d : De} {r : Dr} {t : Db} {g : T → Env → Option Env} {scope : Scope} {own : List (Str × Nat)}
end
end Q
namespace Q
open PySem PySem.Spec PyProof.Rows L2 PySem.AutoSeq1
variable [tbI : Tbl]
include tbI
section
variable {X : Cx}
end
section
variable {K : PySem.W.Frag} {H : Hp} {M : MS}
end
end Q
namespace Q
open PySem PySem.Spec PyProof.Rows L2 PySem.W
variable [tbI : Tbl]
include tbI
theorem T.lt_irrefl (a : T) : a.lt a = false := lex_irrefl _
section
variable {X : Cx} {K : PySem.W.Frag}
end
end Q
namespace Q
open PySem PySem.Spec PyProof.Rows L2
variable [tbI : Tbl]
include tbI
structure ClsI (K : PySem.W.Frag) (c : Str) (C : Addr) (fs : List Str) : Prop where
  ns : PySem.W.nsIn K mainGlobals c = some (some (.ref C))
  cl : L2.Cls K C
  na : ∀ f ∈ fs, NoAttr K C f
section
variable {X : Cx} {pv : Pins} {W : WX} {e a b o : Expr} {es : List Expr} {pos apos : Pos} {d da db : De} {r s : Dr} {ds p : Da} {i : Nat} {c f : Str} {C : Addr} {fs : List Str}
variable {K : PySem.W.Frag} {mg : Str → Option Value} {H H1 H2 : Hp} {M M1 M2 : MS} {F F1 F2 G fv fp : List Addr} {σ : Sg} {ρ ρ1 : Env} {vs : List V} {ts : List T} {lk : List (Option Nat)}
end
end Q
namespace Q
open PySem PySem.Spec PyProof.Rows L2
variable [tbI : Tbl]
include tbI
section
variable {X : Cx} {k : Nat} {f C : Addr} {fd : FuncData} {ps : List Str} {sp : Sp} {E : L2.St → XK} {e o : Expr} {es : List Expr} {ta : TE} {t : TA} {x m : Str} {p pos apos : Pos}
end
structure CalM (P : Program) (w : World) (K : PySem.W.Frag) (mg : Str → Option Value) (base : Heap) (k : Nat) (c m : Str) (ps : List Str) (ino : List Nat) (f : FD) : Prop where
  ex : ∃ C fs a fd, ClsI K c C fs ∧ Meth K C m a ∧ FnQ P w K mg base k a fd ps ino f ∧ Binds K fd ps []
section
variable {X : Cx} {pv : Pins} {W : WX} {e a b o : Expr} {es : List Expr} {pos apos : Pos} {d da db : De} {r s : Dr} {ds p : Da} {i : Nat} {c m : Str}
variable {K : PySem.W.Frag} {mg : Str → Option Value} {H H1 H2 : Hp} {M M1 M2 : MS} {F F1 F2 G fv fp : List Addr} {σ : Sg} {ρ ρ1 : Env} {vs : List V} {ts : List T} {lk : List (Option Nat)}
structure CalI (P : Program) (w : World) (K : PySem.W.Frag) (mg : Str → Option Value) (base : Heap) (k : Nat) (c : Str) (ps : List Str) (f : FD) : Prop where
  ex : ∃ C fs a fd, ClsI K c C fs ∧ mg c = some (.ref C) ∧ Mk K C a ∧ FnQ P w K mg base k a fd ps [0] f ∧ Binds K fd ps []
end
end Q
namespace Q
open PySem PySem.Spec PyProof.Rows L2
mutual
def T.solid : T → Bool
  | .non => true
  | .bl _ => true
  | .int _ => true
  | .str _ => true
  | .tup xs => solids xs
  | .con xs => solids xs
  | .lst o xs => o && solids xs
  | .dic o _ _ vs => o && solids vs
  | .ins o _ _ vs => o && solids vs
def solids : List T → Bool
  | [] => true
  | x :: xs => x.solid && solids xs
end
variable [tbI : Tbl]
include tbI
section
variable {K : PySem.W.Frag} {H : Hp} {M M' : MS}
mutual
theorem Rep.solid : ∀ {fp : List Addr} {v : V} {t : T}, Rep K H M fp v t → t.solid = true → (∀ a ∈ fp, M' a) → Rep K H M' fp v t
  | _, _, _, .non, _, _ => .non
  | _, _, _, .bl b, _, _ => .bl b
  | _, _, _, .int i, _, _ => .int i
  | _, _, _, .str x, _, _ => .str x
  | _, _, _, .tup e r, s, d => .tup e (r.solid s d)
  | _, _, _, .con e r, s, d => .con e (r.solid s d)
  | _, _, _, .lstF _ _ _, s, _ => absurd s Bool.false_ne_true
  | _, _, _, .lstK _ _, s, _ => absurd s Bool.false_ne_true
  | _, _, _, .lstO e m r, s, d => .lstO e (d _ List.mem_cons_self) (r.solid (by simpa [T.solid] using s) fun a ha => d a (List.mem_cons_of_mem _ ha))
  | _, _, _, .dKF _ _ _, s, _ => absurd s Bool.false_ne_true
  | _, _, _, .dKO e m r, s, d => .dKO e (d _ List.mem_cons_self) (r.solid (by simpa [T.solid] using s) fun a ha => d a (List.mem_cons_of_mem _ ha))
  | _, _, _, .dTF _ _ _, s, _ => absurd s Bool.false_ne_true
  | _, _, _, .dTO e m r, s, d => .dTO e (d _ List.mem_cons_self) (r.solid (by simpa [T.solid] using s) fun a ha => d a (List.mem_cons_of_mem _ ha))
  | _, _, _, .exn _ _ _, s, _ => absurd s Bool.false_ne_true
  | _, _, _, .exl _ _ _ _, s, _ => absurd s Bool.false_ne_true
  | _, _, _, .insF _ _ _ _, s, _ => absurd s Bool.false_ne_true
  | _, _, _, .insO g e m r, s, d => .insO g e (d _ List.mem_cons_self) (r.solid (by simpa [T.solid, solids] using s) fun a ha => d a (List.mem_cons_of_mem _ ha))
  | _, _, _, .hol _, s, _ => absurd s Bool.false_ne_true
  | _, _, _, .mrk _ _, s, _ => absurd s Bool.false_ne_true
theorem Reps.solid : ∀ {fp : List Addr} {vs : List V} {ts : List T}, Reps K H M fp vs ts → solids ts = true → (∀ a ∈ fp, M' a) → Reps K H M' fp vs ts
  | _, _, _, .nil, _, _ => .nil
  | _, _, _, .cons r rs, s, d => by
    have s : (_ && _) = true := s
    rw [Bool.and_eq_true] at s
    exact .cons (r.solid s.1 fun a ha => d a (List.mem_append_left _ ha)) (rs.solid s.2 fun a ha => d a (List.mem_append_right _ ha))
end
end
section
variable {P : Program} {w : World} {K : PySem.W.Frag} {mg : Str → Option Value} {base : Heap}
end
end Q
namespace Q
open PySem PySem.Spec PyProof.Rows L2
variable [tbI : Tbl]
include tbI
section
variable {K : PySem.W.Frag} {H H' : Hp} {M M' : MS}
end
section
variable {X : Cx} {pv : Pins} {W : WX} {e : Expr} {d : De}
end
end Q
namespace Q
open PySem PySem.Spec PyProof.Rows L2
variable [tbI : Tbl]
include tbI
section
variable {X : Cx}
end
section
variable {K : PySem.W.Frag} {H : Hp} {M : MS}
end
end Q
namespace Q
open PySem PySem.Spec PyProof.Rows L2
variable [tbI : Tbl]
include tbI
section
variable {X : Cx} {pv : Pins} {W : WX} {e : Expr} {d : De}
end
section
variable {K : PySem.W.Frag} {H : Hp} {M : MS}
end
section
variable {X : Cx} {pv : Pins} {W : WX} {e : Expr} {d : De} {pos : Pos}
end
section
variable {X : Cx} {pv : Pins} {W : WX} {tg iter : Expr} {sts : List Stmt} {pos : Pos} {d : De} {x : Ds} {g : T → Env → Option Env}
end
end Q
namespace Q
open PySem PySem.Spec PyProof.Rows L2
variable [tbI : Tbl]
include tbI
section
variable {X : Cx} {pv : Pins} {W : WX} {e : Expr} {d : De}
end
end Q
namespace Q
open PySem PySem.Spec PyProof.Rows L2
variable [tbI : Tbl]
include tbI
section
variable {X : Cx} {pv : Pins} {W : WX} {e o : Expr} {es : List Expr} {pos apos : Pos} {p : Da} {rs : List Dr} {i : Nat} {c m : Str} {f : FD} {ps : List Str} {k k' : Nat}
variable {H H1 : Hp} {M M1 : MS} {F F1 : List Addr} {σ : Sg} {ρ ρ1 : Env} {ts : List T} {t u : T} {v0 y : V}
end
end Q
namespace Q
open PySem PySem.Spec PyProof.Rows L2 PySem.W PySem.Calls
variable [tbI : Tbl]
include tbI
section
variable {K : PySem.W.Frag} {H : Hp} {M : MS}
end
end Q
namespace Q
open PySem PySem.Spec PyProof.Rows L2
variable [tbI : Tbl]
include tbI
section
variable {X : Cx} {pv : Pins} {W : WX} {e o : Expr} {es : List Expr} {pos apos : Pos} {p ds : Da} {i n : Nat} {c m : Str} {f : FD} {ps : List Str} {k k' : Nat}
variable {H H1 : Hp} {M M1 : MS} {F F1 : List Addr} {σ : Sg} {ρ ρ1 : Env} {ts : List T} {t u : T} {v0 y : V} {pth : List T}
end
end Q
namespace Q
open PySem PySem.Spec PyProof.Rows L2
variable [tbI : Tbl]
include tbI
section
variable {X : Cx} {pv : Pins} {W : WX} {e o : Expr} {es : List Expr} {pos apos : Pos} {p ds : Da} {rs : List Dr} {i j n : Nat} {c m : Str} {f : FD} {ps : List Str} {k k' : Nat}
variable {H H1 : Hp} {M M1 : MS} {F F1 : List Addr} {σ : Sg} {ρ ρ1 : Env} {ts : List T} {t u a : T} {v0 y : V} {pth : List T}
end
end Q
namespace Q
open PySem PySem.Spec PyProof.Rows L2 PySem.W PySem.Calls
abbrev pbe (m : Nat) (h : Int) (c : Nat) : SetTable.Probe := nth m (runAt m (SetTable.bits h % (m + 1)) (SetTable.bits h)) c
theorem pbe_dm (m : Nat) (h : Int) : ∀ c, (pbe m h c).dummy = none
  | 0 => rfl
  | c + 1 => by
    show (nth m _ (c + 1)).dummy = none
    rw [nth_succ]
    have q := pbe_dm m h c
    unfold adv
    split <;> exact q
theorem probe_two {t : SetTable} {hs : List Int} (T : TabOk t hs) {g : Nat → Int} (hg : ∀ (i : Nat) x, hs[i]? = some x → g i = x) (h : Int) {K c : Nat} (hf : K < 10 * SetTable.turns t.mask) (hK : way t.mask h K ∉ t.place.toList)
    (hb : ∀ c, c < K → way t.mask h c ∈ t.place.toList) (hc : c ≤ K) :
    (∃ d i : Nat, c ≤ d ∧ d < K ∧ t.place.toList[i]? = some (way t.mask h d) ∧ hs[i]? = some h ∧ (∀ c' i' : Nat, c ≤ c' → c' < d → t.place.toList[i']? = some (way t.mask h c') → hs[i']? ≠ some h) ∧ t.probe g h (pbe t.mask h c) = some (.candidate (way t.mask h d) i (pbe t.mask h (d + 1)))) ∨
    ((∀ c' i' : Nat, c ≤ c' → c' < K → t.place.toList[i']? = some (way t.mask h c') → hs[i']? ≠ some h) ∧ t.probe g h (pbe t.mask h c) = some (.empty (way t.mask h K) none)) := by
  have sh : ∀ q, nth t.mask (pbe t.mask h c) q = pbe t.mask h (c + q) := fun q => (nth_add t.mask c _ q).symm
  have sj : ∀ q, (nth t.mask (pbe t.mask h c) q).j = way t.mask h (c + q) := fun q => congrArg SetTable.Probe.j (sh q)
  have lt : ∀ {i j : Nat}, t.place.toList[i]? = some j → ∃ x, hs[i]? = some x := fun {i j} e => by
    have z := (List.getElem?_eq_some_iff.mp e).1
    rw [Array.length_toList, T.sz] at z
    exact ⟨_, List.getElem?_eq_getElem z⟩
  rcases go_spec t T.ris T.dm g h (10 * SetTable.turns t.mask) (K - c) (pbe t.mask h c) (pbe_dm _ _ c) (by omega) (fun q hq => by rw [sj]; exact hb _ (by omega)) (by rw [sj, show c + (K - c) = K by omega]; exact hK) with ⟨k, i, a1, a2, a3, a4, a5⟩ | ⟨a1, a2⟩
  · left
    rw [sj] at a2
    obtain ⟨x, hx⟩ := lt a2
    refine ⟨c + k, i, by omega, by omega, a2, by rw [hx, ← hg i x hx, a3], fun c' i' h1 h2 h3 h4 => ?_, ?_⟩
    · exact a4 (c' - c) i' (by omega) (by rw [sj, show c + (c' - c) = c' by omega]; exact h3) (hg i' h h4)
    · rw [sj, sh] at a5
      exact a5
  · right
    refine ⟨fun c' i' h1 h2 h3 h4 => ?_, ?_⟩
    · exact a1 (c' - c) i' (by omega) (by rw [sj, show c + (c' - c) = c' by omega]; exact h3) (hg i' h h4)
    · rw [sj, show c + (K - c) = K by omega] at a2
      exact a2
theorem slot_one {t : SetTable} {hs : List Int} (T : TabOk t hs) {i i' j : Nat} (h : t.place.toList[i]? = some j) (h' : t.place.toList[i']? = some j) : i = i' := by
  have a := slot_live T.ris h
  rw [slot_live T.ris h'] at a
  injection a with a
  exact a.symm
theorem ji0 {α : Type} : ∀ xs : List α, (List.range xs.length).filterMap (fun i => xs[i]?) = xs
  | [] => rfl
  | x :: xs => by
    rw [List.length_cons, List.range_succ_eq_map]
    show x :: List.filterMap _ _ = _
    rw [List.filterMap_map]
    exact congrArg (x :: ·) (ji0 xs)
theorem jn5 {α : Type} (f : α → Int × Value) (xs : List α) (es : Array (Int × Value)) (od : Array Nat) (hr : es.toList = xs.map f) (hp : od.toList.Perm (List.range xs.length)) :
    ∃ ys : List α, (od.filterMap (es[·]?)).toList = ys.map f ∧ ys.Perm xs ∧ (ys.map fun p => (f p).1) = od.toList.map fun i => (es.map (·.1)).getD i 0 := by
  have en : ∀ i, es[i]? = (xs[i]?).map f := fun i => by rw [← Array.getElem?_toList, hr, List.getElem?_map]
  refine ⟨od.toList.filterMap fun i => xs[i]?, ?_, ?_, ?_⟩
  · rw [Array.toList_filterMap, List.map_filterMap]
    exact congrArg (List.filterMap · od.toList) (funext en)
  · have z := hp.filterMap fun i => xs[i]?
    rw [ji0] at z
    exact z
  · have go : ∀ l : List Nat, (∀ i ∈ l, i < xs.length) → ((l.filterMap fun i => xs[i]?).map fun p => (f p).1) = l.map fun i => (es.map (·.1)).getD i 0 := fun l => by
      induction l with
      | nil => intro _; rfl
      | cons i l ih =>
        intro hl
        have hi := hl i List.mem_cons_self
        rw [List.filterMap_cons_some (List.getElem?_eq_getElem hi), List.map_cons, List.map_cons, ih fun j hj => hl j (List.mem_cons_of_mem _ hj)]
        have e2 : (es.map (·.1))[i]? = some (f xs[i]).1 := by rw [Array.getElem?_map, en, List.getElem?_eq_getElem hi]; rfl
        rw [show (es.map (·.1)).getD i 0 = (f xs[i]).1 by simp [Array.getD_eq_getD_getElem?, e2]]
    exact go _ fun i hi => List.mem_range.mp (hp.mem_iff.mp hi)
abbrev Mx (P : Program) (w : World) (h : Heap) (k : List L2.Key) (b : Addr) : Prop := IsTupleKey (mixKind P w) h k b
abbrev mhs (P : Program) (w : World) (k : List L2.Key) : Int := tupleKeyHash (mixKind P w) k
abbrev mrow (P : Program) (w : World) (p : Addr × List L2.Key) : Int × Value := (mhs P w p.2, .ref p.1)
theorem stmt_val (n : Nat) {v : Value} (h : carriedByValue v = true) : ofAClassStatement n v = pure false := by
  cases v <;> first | (cases h; done) | (cases n <;> rfl)
theorem hashv_val (n : Nat) {v : Value} (h : carriedByValue v = true) : ∃ c, hashByValue n v = pure c := by
  cases v <;> first | (cases h; done) | (cases n <;> exact ⟨_, rfl⟩)
section
variable {P : Program} {w : World} {A : Around} {E : Value → Shared → Prop} {s : Shared}
theorem mx_stmt {k : List L2.Key} {b : Addr} {Q : Bool → Shared → Prop} (x : Mx P w s.heap k b) (q : Q false s) : wpAny (model P w) A (ofAClassStatement 8 (.ref b)) Q E s := by
  have ty := x.typeIs
  obtain ⟨o, its, n, e1, _, e3, e4⟩ := x
  have t1 : (("tuple" : String) == "tuple") = true := by decide
  unfold ofAClassStatement
  refine wpAny_bind (wpAny_typeOf ty ?_)
  dsimp only
  simp only [t1, if_true, Bool.not_true, Bool.false_eq_true, if_false]
  try refine wpAny_bind (wpAny_pure ?_)
  try simp only [Bool.not_true, Bool.false_eq_true, if_false]
  show wpAny _ _ (seqItems? (.ref b) >>= _) _ _ s
  refine wpAny_bind (wpAny_seqItems e1 e3 ?_); dsimp only
  refine wpAny_bind ?_
  show wpAny _ _ (forIn its _ _) _ _ s; rw [← Array.forIn_toList]
  refine wpAny_forIn_list _ (fun l r u => r.1 = none ∧ u = s ∧ ∀ v ∈ l, carriedByValue v = true) _ (fun v l r u => ?_) (fun r u => ?_) _ _ ⟨rfl, rfl, e4.byValue⟩
  · rintro ⟨_, rfl, al⟩
    rw [stmt_val _ (al v List.mem_cons_self)]
    refine wpAny_bind (wpAny_pure ?_)
    simp only [Bool.false_eq_true, if_false]
    exact wpAny_pure ⟨rfl, rfl, fun y hy => al y (List.mem_cons_of_mem _ hy)⟩
  · rintro ⟨e, rfl, _⟩
    obtain ⟨c, d⟩ := r
    simp only at e
    subst e
    exact wpAny_pure q
theorem mx_hashv {k : List L2.Key} {b : Addr} {Q : Bool → Shared → Prop} (x : Mx P w s.heap k b) (q : ∀ c, Q c s) : wpAny (model P w) A (hashByValue 8 (.ref b)) Q E s := by
  have ty := x.typeIs
  obtain ⟨o, its, n, e1, _, e3, e4⟩ := x
  unfold hashByValue
  refine wpAny_bind (wpAny_specialOf ty F.slot_tuple_hash.lookup ?_)
  show wpAny _ _ (seqItems? (.ref b) >>= _) _ _ s
  refine wpAny_bind (wpAny_seqItems e1 e3 ?_)
  refine wpAny_bind ?_
  show wpAny _ _ (forIn its _ _) _ _ s; rw [← Array.forIn_toList]
  refine wpAny_forIn_list _ (fun l r u => r.1 = none ∧ u = s ∧ ∀ v ∈ l, carriedByValue v = true) _ (fun v l r u => ?_) (fun r u => ?_) _ _ ⟨rfl, rfl, e4.byValue⟩
  · rintro ⟨_, rfl, al⟩
    obtain ⟨c, hc⟩ := hashv_val 7 (al v List.mem_cons_self)
    rw [hc]
    refine wpAny_bind (wpAny_pure ?_)
    cases c
    · simp only [Bool.not_false, if_true]
      exact wpAny_pure (wpAny_pure (q false))
    · simp only [Bool.not_true, Bool.false_eq_true, if_false]
      exact wpAny_pure ⟨rfl, rfl, fun y hy => al y (List.mem_cons_of_mem _ hy)⟩
  · rintro ⟨e, rfl, _⟩
    obtain ⟨c, d⟩ := r
    simp only at e
    subst e
    exact wpAny_pure (q true)
theorem mx_unseen {k : List L2.Key} {b : Addr} {Q : Bool → Shared → Prop} (x : Mx P w s.heap k b) {ys : List Value} (hy : ∀ y ∈ ys, ∃ k' c, y = Value.ref c ∧ Mx P w s.heap k' c) (q : Q false s) : wpAny (model P w) A (searchCouldBeSeen (.ref b) ys) Q E s := by
  unfold searchCouldBeSeen
  refine wpAny_bind ?_
  refine wpAny_forIn_list _ (fun l r u => r.1 = none ∧ u = s ∧ ∀ y ∈ l, ∃ k' c, y = Value.ref c ∧ Mx P w s.heap k' c) _ (fun v l r u => ?_) (fun r u => ?_) _ _ ⟨rfl, rfl, hy⟩
  · rintro ⟨_, rfl, al⟩
    obtain ⟨k', c, rfl, y⟩ := al v List.mem_cons_self
    have al' : ∀ y ∈ l, ∃ k' c, y = Value.ref c ∧ Mx P w u.heap k' c := fun z hz => al z (List.mem_cons_of_mem _ hz)
    dsimp only
    by_cases hv : (b == c || (carriedByValue (.ref b) && carriedByValue (.ref c))) = true
    · exact wp_if_pos hv (wpAny_pure ⟨rfl, rfl, al'⟩)
    · refine wp_if_neg hv (wpAny_bind (wpAny_eqIsQuiet_tuple x ?_)); simp only [Bool.not_true, Bool.false_eq_true, if_false]
      refine wpAny_bind (wpAny_eqIsQuiet_tuple y ?_); simp only [Bool.not_true, Bool.false_eq_true, if_false]
      refine wpAny_bind (mx_stmt x ?_); simp only [Bool.false_eq_true, if_false]
      refine wpAny_bind (mx_stmt y ?_); simp only [Bool.false_eq_true, if_false]
      exact wpAny_pure ⟨rfl, rfl, al'⟩
  · rintro ⟨e, rfl, _⟩
    obtain ⟨c, d⟩ := r
    simp only at e
    subst e
    exact wpAny_pure q
structure MSet (P : Program) (w : World) (h : Heap) (a : Addr) (L : List (Addr × List L2.Key)) (es : Array (Int × Value)) (ep : Nat) (t : SetTable) : Prop where
  ob : ∃ o, h.get? a = some o ∧ o.ExactSet ∧ o.data = .set es ep t
  row : es.toList = L.map (mrow P w)
  tb : TabOk t (L.map fun p => mhs P w p.2)
  un : (L.map (·.2)).Nodup
  mx : ∀ p ∈ L, Mx P w h p.2 p.1
  ld : w.params.followText "set-order" = true ∨ t.led = true
  rm : L.length * 5 < t.mask * 3
  fw : L.length < 64
variable {a : Addr} {L : List (Addr × List L2.Key)} {es : Array (Int × Value)} {ep : Nat} {t : SetTable}
theorem jgj (r : es.toList = L.map (mrow P w)) : es.size = L.length := by
  rw [← Array.length_toList, r, List.length_map]
theorem jkd (r : es.toList = L.map (mrow P w)) (sz : t.place.size = es.size) (dm : t.dummies = #[]) (le : es.size ≤ t.mask) : t.fits es.size = true := by
  unfold SetTable.fits SetTable.fill
  rw [dm, Bool.and_eq_true, beq_iff_eq, decide_eq_true_eq]
  show t.place.size = es.size ∧ t.place.size + 0 ≤ t.mask
  omega
theorem MSet.sz (R : MSet P w s.heap a L es ep t) : t.place.size = es.size := by
  have := R.tb.sz
  rw [List.length_map] at this
  rw [this, jgj R.row]
theorem MSet.fits (R : MSet P w s.heap a L es ep t) : t.fits es.size = true := jkd R.row R.sz R.tb.dm (by have := jgj R.row; have := R.rm; omega)
theorem MSet.en (R : MSet P w s.heap a L es ep t) {i : Nat} {p : Addr × List L2.Key} (h : L[i]? = some p) : es[i]? = some (mrow P w p) := by
  rw [← Array.getElem?_toList, R.row, List.getElem?_map, h]; rfl
theorem seek (R : MSet P w s.heap a L es ep t) {x : Addr} {k : List L2.Key} (hx : Mx P w s.heap k x) (hu : A.units < cLine) {K : Nat} (hf : K < 10 * SetTable.turns t.mask)
    (hK : way t.mask (mhs P w k) K ∉ t.place.toList) (hb : ∀ c, c < K → way t.mask (mhs P w k) c ∈ t.place.toList) {Q : SetFound → Shared → Prop}
    (hin : k ∈ L.map (·.2) → Q (.there none) s) (hout : k ∉ L.map (·.2) → Q (.free (way t.mask (mhs P w k) K) false) s) :
    ∀ (f c : Nat) (st : Option SetTable.Probe), st.getD (t.probeStart (mhs P w k)) = pbe t.mask (mhs P w k) c → c ≤ K → K - c < f →
      (∀ (c' i : Nat) (p : Addr × List L2.Key), c' < c → t.place.toList[i]? = some (way t.mask (mhs P w k) c') → L[i]? = some p → p.2 ≠ k) →
      wpAny (model P w) A (setSearchFrom a (.ref x) (mhs P w k) true f st) Q E s
  | 0, _, _, _, _, h, _ => absurd h (Nat.not_lt_zero _)
  | f + 1, c, st, hst, hc, hfc, no => by
    obtain ⟨o, ho, hex, hd⟩ := R.ob
    have gw : ¬ t.gaveWay = true := by
      unfold SetTable.gaveWay
      rw [mask_odd R.tb.mok]; decide
    have hat : ∀ (i : Nat) p, L[i]? = some p → (L.map fun p => mhs P w p.2)[i]? = some (mhs P w p.2) := fun i p e => by rw [List.getElem?_map, e]; rfl
    have hg : ∀ (i : Nat) y, (L.map fun p => mhs P w p.2)[i]? = some y → (fun i => (es[i]?.map (·.1)).getD 0) i = y := fun i y e => by
      rw [List.getElem?_map] at e
      cases q : L[i]? with
      | none => rw [q] at e; cases e
      | some p =>
        rw [q] at e
        cases e
        show (es[i]?.map (·.1)).getD 0 = _
        rw [R.en q]; rfl
    rw [setSearchFrom_succ]
    refine wpAny_bind (wpAny_setState_of ho hd R.fits ?_); dsimp only
    refine wp_if_neg gw ?_
    try refine wpAny_bind (wpAny_pure ?_)
    rw [hst]
    rcases probe_two R.tb hg (mhs P w k) hf hK hb hc with ⟨d, i, d1, d2, d3, d4, d5, d6⟩ | ⟨d1, d2⟩
    · rw [d6]; dsimp only
      obtain ⟨p, hp⟩ : ∃ p, L[i]? = some p := by
        cases q : L[i]? with
        | none => rw [List.getElem?_map, q] at d4; cases d4
        | some p => exact ⟨p, rfl⟩
      have pm := List.mem_of_getElem? hp
      have rest : wpAny (model P w) A (searchRest a (.ref x) (mhs P w k) true f es t (way t.mask (mhs P w k) d) i (pbe t.mask (mhs P w k) (d + 1))) Q E s := by
        unfold searchRest
        rw [R.en hp]; dsimp only
        refine wpAny_bind (wpAny_holding (wpAny_eqBool_tuple hu (R.mx p pm) hx ?_))
        refine wpAny_bind (wpAny_setState_of ho hd R.fits ?_); dsimp only
        by_cases hk : p.2 = k
        · exact wp_if_pos (by simp [hk]) (wpAny_pure (hin (List.mem_map.mpr ⟨p, pm, hk⟩)))
        · refine wp_if_neg (by simp [hk]) ?_
          try refine wpAny_bind (wpAny_pure ?_)
          rw [sameMem]; dsimp only
          simp only [if_true, slot_live R.tb.ris d3, R.en hp]
          refine wpAny_bind (wpAny_isSame_ref_self (wpAny_bind (wpAny_pure ?_)))
          simp only [if_true]
          refine wp_if_neg (by simp [hk]) (seek R hx hu hf hK hb hin hout f (d + 1) _ rfl (by omega) (by omega) fun c' i' p' h1 h2 h3 e => ?_)
          rcases Nat.lt_or_ge c' c with z | z
          · exact no c' i' p' z h2 h3 e
          · rcases Nat.lt_or_ge c' d with y | y
            · exact d5 c' i' z y h2 (by rw [hat i' p' h3, e])
            · obtain rfl : c' = d := by omega
              obtain rfl := slot_one R.tb d3 h2
              rw [hp] at h3
              cases h3
              exact hk e
      by_cases hl : t.led = true
      · refine wp_if_neg (by simp [hl]) ?_
        try refine wpAny_bind (wpAny_pure ?_)
        exact rest
      · refine wp_if_pos (by simp [hl]) (wpAny_bind (mx_unseen hx (fun y hy => ?_) ?_))
        · obtain ⟨e, he, ee⟩ := List.mem_map.mp hy
          have m1 : e ∈ es ∧ e.1 = mhs P w k := by simpa using he
          have m2 : e ∈ es.toList := by simpa using m1.1
          rw [R.row] at m2
          obtain ⟨p2, m3, rfl⟩ := List.mem_map.mp m2
          exact ⟨p2.2, p2.1, ee.symm, R.mx p2 m3⟩
        · refine wp_if_neg (by decide) ?_
          try refine wpAny_bind (wpAny_pure ?_)
          exact rest
    · rw [d2]; dsimp only
      refine wpAny_pure (hout fun hm => ?_)
      obtain ⟨p, pm, e⟩ := List.mem_map.mp hm
      obtain ⟨i, hi, e0⟩ := List.getElem_of_mem pm
      have hp : L[i]? = some p := by rw [List.getElem?_eq_getElem hi, e0]
      have hh : (L.map fun p => mhs P w p.2)[i]? = some (mhs P w k) := by rw [hat i p hp, e]
      have il : i < t.place.toList.length := by rw [Array.length_toList, R.sz, jgj R.row]; exact hi
      obtain ⟨c', h1, h2⟩ := R.tb.before hK hh (List.getElem?_eq_getElem il)
      have h3 : t.place.toList[i]? = some (way t.mask (mhs P w k) c') := by rw [h2]; exact List.getElem?_eq_getElem il
      rcases Nat.lt_or_ge c' c with z | z
      · exact no c' i p z h3 hp e
      · exact d1 c' i z h1 h3 hh
theorem seek0 (R : MSet P w s.heap a L es ep t) {x : Addr} {k : List L2.Key} (hx : Mx P w s.heap k x) (hu : A.units < cLine) {Q : SetFound → Shared → Prop} (hin : k ∈ L.map (·.2) → Q (.there none) s)
    (hout : ∀ K, k ∉ L.map (·.2) → way t.mask (mhs P w k) K ∉ t.place.toList → (∀ c, c < K → way t.mask (mhs P w k) c ∈ t.place.toList) → Q (.free (way t.mask (mhs P w k) K) false) s) :
    wpAny (model P w) A (setSearch a (.ref x) (mhs P w k) true) Q E s := by
  have rm := R.rm
  obtain ⟨K, hf, hK, hb⟩ := R.tb.first (by rw [List.length_map]; omega) (mhs P w k)
  have big : 10 * SetTable.turns t.mask ≤ 1420 := by
    unfold SetTable.turns
    rcases R.tb.mok with e | e | e <;> omega
  exact seek R hx hu hf hK hb hin (fun n => hout K n hK hb) 100000 0 none rfl (Nat.zero_le _) (by omega) fun c' _ _ z => absurd z (Nat.not_lt_zero _)
theorem jn6 {h h' : Heap} {k : List L2.Key} {a b : Addr} {o : Obj} {es : Array (Int × Value)} {ep : Nat} {t : SetTable} (x : Mx P w h k b) (ho : h.get? a = some o) (hd : o.data = .set es ep t) (sb : Heap.SameBut a h h') : Mx P w h' k b := by
  obtain ⟨u, its, n, e1, e2, e3, e4⟩ := x
  refine ⟨u, its, n, (sb.2 b fun z => ?_).trans e1, e2, e3, e4⟩
  rw [z, ho] at e1
  cases e1
  rw [hd] at e3
  cases e3
theorem jn7 {h h' : Heap} {k : List L2.Key} {b : Addr} (x : Mx P w h k b) (kp : ∀ c o, h.get? c = some o → h'.get? c = some o) : Mx P w h' k b := by
  obtain ⟨o, its, n, e1, r⟩ := x
  exact ⟨o, its, n, kp b o e1, r⟩
end
end Q
namespace Q
open PySem PySem.Spec PyProof.Rows L2 PySem.W PySem.Calls
section
variable {P : Program} {w : World} {A : Around} {E : Value → Shared → Prop} {s : Shared}
variable {a : Addr} {L : List (Addr × List L2.Key)} {es : Array (Int × Value)} {ep : Nat} {t : SetTable}
theorem relay {o : Obj} (ho : s.heap.get? a = some o) (hex : o.ExactSet) (hd : o.data = .set es ep t) (row : es.toList = L.map (mrow P w)) (sz : t.place.size = es.size) (dm : t.dummies = #[]) (le : es.size ≤ t.mask)
    (un : (L.map (·.2)).Nodup) (mx : ∀ p ∈ L, Mx P w s.heap p.2 p.1) (ld : w.params.followText "set-order" = true ∨ t.led = true) (fw : L.length < 64) {wt M : Nat} (hw : SetTable.sizeAbove wt - 1 = M) (hM : MaskOk M)
    (h128 : SetTable.sizeAbove wt ≤ 128) (hn : L.length * 5 < M * 3) {Q : Unit → Shared → Prop} (q : ∀ h' L' es' ep' t', Heap.SameBut a s.heap h' → MSet P w h' a L' es' ep' t' → L'.Perm L → Q () { s with heap := h' }) :
    wpAny (model P w) A (setRelay a wt) Q E s := by
  have sl := jgj row
  obtain ⟨u, od, e, op, T, em, el, _, _⟩ := relaid_ok t (hs := es.map (·.1)) (wanted := wt) hw hM (by rw [Array.size_map, sl]; omega)
  rw [Array.size_map, sl] at op
  obtain ⟨ys, r1, r2, r3⟩ := jn5 (mrow P w) L es od row op
  rw [← r3] at T
  have s2 : (od.filterMap (es[·]?)).size = es.size := by
    rw [← Array.length_toList, r1, List.length_map, r2.length_eq, sl]
  rw [setRelay_eq]
  refine wpAny_bind (wpAny_setState_of ho hd (jkd row sz dm le) ?_); dsimp only
  refine wp_if_neg (by rw [sizeLine_eq]; omega) ?_
  try refine wpAny_bind (wpAny_pure ?_)
  rw [e]; dsimp only
  refine wpAny_bind (wp_if_neg (by rw [s2]; simp) ?_)
  try refine wpAny_bind (wpAny_pure ?_)
  refine wpAny_pure ?_; dsimp only
  refine wpAny_storeSet_of ho hd ?_ (by rw [s2, sl, sizeLine_eq]; omega)
  have sb : Heap.SameBut a s.heap (s.heap.update a (Obj.putSet (od.filterMap (es[·]?)) u)) := Heap.SameBut.update ..
  refine q _ ys _ (ep + 1) u sb ⟨⟨_, store_at ho hd, ⟨hex.1, hex.2.1, hex.2.2⟩, rfl⟩, r1, T, (r2.map (·.2)).nodup_iff.mpr un, fun p pm => jn6 (mx p (r2.mem_iff.mp pm)) ho hd sb, by rw [el]; exact ld, ?_, by rw [r2.length_eq]; exact fw⟩ r2
  rw [r2.length_eq, em]; exact hn
theorem byv {t : SetTable} {x : Addr} {k : List L2.Key} (hx : Mx P w s.heap k x) {β : Type} {f : Bool → Sem β} {Q : β → Shared → Prop} (q : ∀ c, wpAny (model P w) A (f c) Q E s) : wpAny (model P w) A (if t.plain = true then hashByValue 8 (.ref x) >>= f else pure true >>= f) Q E s := by
  split
  · exact wpAny_bind (mx_hashv hx q)
  · exact wpAny_bind (wpAny_pure (q true))
theorem take_put {α : Type} (xs : List α) (p : Nat) (x : α) : (xs.take p ++ x :: xs.drop p).Perm (x :: xs) := by
  have h := List.perm_middle (a := x) (l₁ := xs.take p) (l₂ := xs.drop p)
  rwa [List.take_append_drop] at h
theorem put_new (R : MSet P w s.heap a L es ep t) {x : Addr} {k : List L2.Key} (hx : Mx P w s.heap k x) (hu : A.units < cLine) (fw1 : L.length + 1 < 64) {Q : Bool → Shared → Prop}
    (q : ∀ b h' L' es' ep' t', Heap.SameBut a s.heap h' → MSet P w h' a L' es' ep' t' → (k ∈ L.map (·.2) → L' = L) → (k ∉ L.map (·.2) → L'.Perm ((x, k) :: L)) → Q b { s with heap := h' }) :
    wpAny (model P w) A (setAddHashed a (.ref x) (mhs P w k)) Q E s := by
  obtain ⟨o, ho, hex, hd⟩ := R.ob
  have sl := jgj R.row
  have rm := R.rm
  unfold setAddHashed
  refine wpAny_holding ?_
  rw [show (100000 : Nat) = 99999 + 1 from rfl, setAddHashedIn_succ]
  refine wpAny_bind (wpAny_setState_of ho hd R.fits ?_); dsimp only
  refine wp_if_neg (by simp [byScan, Value.scannable]) ?_
  try refine wpAny_bind (wpAny_pure ?_)
  refine wpAny_bind (seek0 R hx hu (fun hm => ?_) fun K hm hK hb => ?_)
  · dsimp only
    exact wpAny_pure (q false s.heap L es ep t (Heap.SameBut.refl a s.heap) R (fun _ => rfl) fun z => absurd hm z)
  dsimp only
  refine wpAny_bind (wpAny_setState_of ho hd R.fits ?_); dsimp only
  obtain ⟨q1, q2, q3, q4, q5, _, _, _, q9⟩ := R.tb.put hK hb
  generalize hpt : t.put (way t.mask (mhs P w k) K) = pt at q1 q3 q4 q5 q9 ⊢
  obtain ⟨t1, p⟩ := pt
  dsimp only at q1 q3 q4 q5 q9 ⊢
  subst q1
  refine byv hx fun c => ?_
  obtain ⟨t2, e2⟩ : ∃ t2, t2 = (if c = true then t1 else { t1 with plain := false }) := ⟨_, rfl⟩
  have T2 : TabOk t2 ((L.map fun p => mhs P w p.2).take (SetTable.below t.place (way t.mask (mhs P w k) K)) ++ mhs P w k :: (L.map fun p => mhs P w p.2).drop (SetTable.below t.place (way t.mask (mhs P w k) K))) ∧ t2.mask = t.mask ∧ t2.led = t.led ∧ t2.fill = L.length + 1 := by
    rw [List.length_map] at q9
    cases c
    · rw [e2]; exact ⟨⟨q3.ris, q3.dm, q3.sz, q3.mok, q3.bd, q3.reach⟩, q4, q5, q9⟩
    · rw [e2]; exact ⟨q3, q4, q5, q9⟩
  rw [← e2]
  clear e2 q3 q4 q5 q9 hpt
  obtain ⟨T, em, el, ef⟩ := T2
  have row : (SetTable.insertAt es (SetTable.below t.place (way t.mask (mhs P w k) K)) (mhs P w k, Value.ref x)).toList = (L.take (SetTable.below t.place (way t.mask (mhs P w k) K)) ++ (x, k) :: L.drop (SetTable.below t.place (way t.mask (mhs P w k) K))).map (mrow P w) := by
    rw [SetTable.toList_insertAt, R.row, List.map_append, List.map_cons, List.map_take, List.map_drop]
  rw [← List.map_take, ← List.map_drop, show mhs P w k :: List.map (fun p => mhs P w p.2) (L.drop (SetTable.below t.place (way t.mask (mhs P w k) K))) = List.map (fun p : Addr × List L2.Key => mhs P w p.2) ((x, k) :: L.drop (SetTable.below t.place (way t.mask (mhs P w k) K))) from rfl, ← List.map_append] at T
  have pm := take_put L (SetTable.below t.place (way t.mask (mhs P w k) K)) (x, k)
  generalize L.take (SetTable.below t.place (way t.mask (mhs P w k) K)) ++ (x, k) :: L.drop (SetTable.below t.place (way t.mask (mhs P w k) K)) = L1 at row T pm
  generalize SetTable.insertAt es (SetTable.below t.place (way t.mask (mhs P w k) K)) (mhs P w k, Value.ref x) = es1 at row ⊢
  have l1 : L1.length = L.length + 1 := pm.length_eq
  have z1 := jgj row
  have un1 : (L1.map (·.2)).Nodup := (pm.map (·.2)).nodup_iff.mpr (List.nodup_cons.mpr ⟨hm, R.un⟩)
  refine wpAny_bind (wpAny_storeSet_of ho hd ?_ (by rw [z1, l1, sizeLine_eq]; omega))
  have sb : Heap.SameBut a s.heap (s.heap.update a (Obj.putSet es1 t2)) := Heap.SameBut.update ..
  have ho1 := store_at (es' := es1) (t' := t2) ho hd
  generalize s.heap.update a (Obj.putSet es1 t2) = h1 at sb ho1 ⊢
  have mx1 : ∀ p ∈ L1, Mx P w h1 p.2 p.1 := fun p hp => by
    rcases List.mem_cons.mp (pm.mem_iff.mp hp) with e | hp
    · rw [e]; exact jn6 hx ho hd sb
    · exact jn6 (R.mx p hp) ho hd sb
  have ld1 : w.params.followText "set-order" = true ∨ t2.led = true := by rw [el]; exact R.ld
  by_cases hfl : t2.tooFull = true
  · first
      | refine wpAny_bind (wp_if_pos (by simp [hfl]) ?_)
      | refine wp_if_pos (by simp [hfl]) (wpAny_bind ?_)
    have full : (L.length + 1) * 5 ≥ t2.mask * 3 := by
      have h := hfl
      unfold SetTable.tooFull at h
      rwa [decide_eq_true_eq, ef] at h
    rw [sl]
    have sz1 : t2.place.size = es1.size := by rw [T.sz, List.length_map, z1]
    have two : (t.mask = 7 ∧ L.length = 4) ∨ (t.mask = 31 ∧ L.length = 18) := by
      rcases R.tb.mok with e | e | e <;> rw [em, e] at full <;> rw [e] at rm
      · exact .inl ⟨e, by omega⟩
      · exact .inr ⟨e, by omega⟩
      · omega
    have go : ∀ M, SetTable.sizeAbove (SetTable.grown (L.length + 1)) - 1 = M → MaskOk M → SetTable.sizeAbove (SetTable.grown (L.length + 1)) ≤ 128 → (L.length + 1) * 5 < M * 3 →
        wpAny (model P w) A (setRelay a (SetTable.grown (L.length + 1))) (fun _ s' => wpAny (model P w) A (pure true) Q E s') E { s with heap := h1 } := fun M g1 g2 g3 g4 =>
      relay (s := { s with heap := h1 }) ho1 ⟨hex.1, hex.2.1, hex.2.2⟩ rfl row sz1 T.dm (by rw [z1, l1, em]; rcases two with ⟨e, e2⟩ | ⟨e, e2⟩ <;> omega) un1 mx1 ld1 (by rw [l1]; exact fw1) g1 g2 g3 (by rw [l1]; exact g4)
        fun h2 L2 es2 ep2 t2 sb2 R2 pm2 => wpAny_pure (q true h2 L2 es2 ep2 t2 (sb.trans sb2) R2 (fun z => absurd z hm) fun _ => pm2.trans pm)
    rcases two with ⟨_, e2⟩ | ⟨_, e2⟩
    · exact go 31 (by rw [e2, size_20]) (.inr (.inl rfl)) (by rw [e2, size_20]; decide) (by omega)
    · exact go 127 (by rw [e2, size_76]) (.inr (.inr rfl)) (by rw [e2, size_76]; decide) (by omega)
  · first
      | refine wp_if_neg (by simp [hfl]) ?_
      | refine wpAny_bind (wp_if_neg (by simp [hfl]) (wpAny_pure ?_))
    refine wpAny_pure (q true h1 L1 es1 (ep + 1) t2 sb ⟨⟨_, ho1, ⟨hex.1, hex.2.1, hex.2.2⟩, rfl⟩, row, T, un1, mx1, ld1, ?_, by rw [l1]; exact fw1⟩ (fun z => absurd z hm) fun _ => pm)
    have h := hfl
    unfold SetTable.tooFull at h
    rw [decide_eq_true_eq, ef] at h
    rw [l1]; omega
structure Has (ks : List (Addr × List L2.Key)) (i : Nat) (L : List (Addr × List L2.Key)) : Prop where
  sub : ∀ p ∈ L, p ∈ ks.take i
  all : ∀ p ∈ ks.take i, p.2 ∈ L.map (·.2)
  le : L.length ≤ i
theorem Has.next {ks L L' : List (Addr × List L2.Key)} {i : Nat} {x : Addr × List L2.Key} (g : Has ks i L) (h : ks[i]? = some x) (c1 : x.2 ∈ L.map (·.2) → L' = L) (c2 : x.2 ∉ L.map (·.2) → L'.Perm (x :: L)) : Has ks (i + 1) L' := by
  have tk : ks.take (i + 1) = ks.take i ++ [x] := by rw [List.take_succ, h]; rfl
  by_cases c : x.2 ∈ L.map (·.2)
  · rw [c1 c]
    refine ⟨fun p hp => by rw [tk]; exact List.mem_append_left _ (g.sub p hp), fun p hp => ?_, Nat.le_succ_of_le g.le⟩
    rw [tk] at hp
    rcases List.mem_append.mp hp with z | z
    · exact g.all p z
    · rw [List.mem_singleton.mp z]; exact c
  · have pm := c2 c
    refine ⟨fun p hp => ?_, fun p hp => ?_, by rw [pm.length_eq]; exact Nat.succ_le_succ g.le⟩
    · rw [tk]
      rcases List.mem_cons.mp (pm.mem_iff.mp hp) with e | z
      · rw [e]; exact List.mem_append_right _ (List.mem_singleton.mpr rfl)
      · exact List.mem_append_left _ (g.sub p z)
    · rw [(pm.map (·.2)).mem_iff, List.map_cons]
      rw [tk] at hp
      rcases List.mem_append.mp hp with z | z
      · exact List.mem_cons_of_mem _ (g.all p z)
      · rw [List.mem_singleton.mp z]; exact List.mem_cons_self
theorem MSet.keep {h h' : Heap} (R : MSet P w h a L es ep t) (ka : ∀ o, h.get? a = some o → h'.get? a = some o) (mx : ∀ p ∈ L, Mx P w h' p.2 p.1) : MSet P w h' a L es ep t := by
  obtain ⟨o, ho, r⟩ := R.ob
  exact ⟨⟨o, ka o ho, r⟩, R.row, R.tb, R.un, mx, R.ld, R.rm, R.fw⟩
abbrev newS (w : World) : Obj := { cls := .type "set", dict := none, data := .set #[] 0 (.fresh 0 0 (!w.params.followText "set-order")) }
theorem mset_new {h : Heap} (ho : h.get? a = some (newS w)) : MSet P w h a [] #[] 0 (.fresh 0 0 (!w.params.followText "set-order")) where
  ob := ⟨_, ho, ⟨rfl, rfl, rfl⟩, rfl⟩
  row := rfl
  tb := ⟨List.Pairwise.nil, rfl, rfl, .inl rfl, (fun x hx => nomatch hx), fun i h j hi => by simp at hi⟩
  un := List.nodup_nil
  mx := fun p hp => nomatch hp
  ld := by
    show _ ∨ (!w.params.followText "set-order") = true
    cases w.params.followText "set-order" <;> decide
  rm := by show 0 * 5 < 7 * 3; decide
  fw := by decide
theorem fill_set {I : Addr} {fp wr : List Addr} {G : Array GenState → Array GenState → Prop} {n : Nat} {Pv : Nat → Value → Prop} {St : Nat → Shared → Prop} {R : Result → Shared → Prop} (W : WalksS P w A.in1 I fp wr G n Pv St) (S : Addr) (hS : S ∉ fp)
    (ks : List (Addr × List L2.Key)) (hn : n = ks.length) (fw : ks.length < 64) (hv : ∀ i v, Pv i v → ∃ p, ks[i]? = some p ∧ v = .ref p.1) (h0 : Heap) (mk : ∀ p ∈ ks, Mx P w h0 p.2 p.1) (S0 : h0.get? S = none) (w0 : ∀ b ∈ wr, h0.get? b = none) (hu : A.in1.units < cLine) :
    ∀ (m i : Nat) (s : Shared), n - i = m → i ≤ n → St i s → (∀ b o, h0.get? b = some o → s.heap.get? b = some o) → (∃ L es ep t, MSet P w s.heap S L es ep t ∧ Has ks i L) →
      (∀ s' L es ep t, Moved (S :: wr) G s s' → MSet P w s'.heap S L es ep t → Has ks n L → (∀ b o, h0.get? b = some o → s'.heap.get? b = some o) → R (.ok (.ret .none)) s') →
      codeAny (model P w) A (.builtin "set.update.loop" ⟨[.ref S, .ref I], []⟩) R s := by
  have sw : S ∉ wr := fun h => hS (W.sub _ h)
  have up : ∀ b ∈ wr, b ∈ S :: wr := fun b hb => List.mem_cons_of_mem _ hb
  have km : ∀ {s s' : Shared}, Moved wr G s s' → (∀ b o, h0.get? b = some o → s.heap.get? b = some o) → ∀ b o, h0.get? b = some o → s'.heap.get? b = some o := fun hm kp b o e =>
    hm.heap b o (fun hb => by rw [w0 b hb] at e; cases e) (kp b o e)
  intro m
  induction m with
  | zero =>
    rintro i s hm hi st kp ⟨L, es, ep, t, MS, g⟩ fin
    obtain rfl : i = n := by omega
    refine codeAny_builtin F.entry_set_update_loop ?_
    rw [Around.under_plainId F.plain_set_update_loop _]
    show wpAny _ A.in1 (pyNext (.ref I) >>= _) _ _ s
    refine wpAny_bind (W.done s _ _ st fun s' mv => ?_)
    show wpAny _ A.in1 (ret Value.none) _ _ s'
    have kp' := km mv kp
    exact wpAny_pure (fin s' L es ep t (mv.mono up) (MS.keep (fun o e => mv.heap S o sw e) fun p hp => jn7 (mk p (List.mem_of_mem_take (g.sub p hp))) kp') g kp')
  | succ m ih =>
    rintro i s hm hi st kp ⟨L, es, ep, t, MS, g⟩ fin
    have lt : i < n := by omega
    refine codeAny_builtin F.entry_set_update_loop ?_
    rw [Around.under_plainId F.plain_set_update_loop _]
    show wpAny _ A.in1 (pyNext (.ref I) >>= _) _ _ s
    refine wpAny_bind (W.item i s _ _ lt st fun v s' pv st' mv => ?_)
    obtain ⟨p, hp, rfl⟩ := hv i v pv
    have kp' := km mv kp
    have MS' : MSet P w s'.heap S L es ep t := MS.keep (fun o e => mv.heap S o sw e) fun r hr => jn7 (mk r (List.mem_of_mem_take (g.sub r hr))) kp'
    have hx : Mx P w s'.heap p.2 p.1 := jn7 (mk p (List.mem_of_getElem? hp)) kp'
    show wpAny _ A.in1 (holding [Value.ref p.1] (setAdd S (.ref p.1)) >>= _) _ _ s'
    refine wpAny_bind (wpAny_holding ?_)
    unfold setAdd
    refine wpAny_holding (wpAny_bind (wpAny_pyHash_tuple hu hx ?_))
    refine put_new (s := { s' with toks := s'.toks + (p.2.length + 1) }) MS' hx hu (by have := g.le; omega) fun b h' L' es' ep' t' sb M2 c1 c2 => ?_
    have kp2 : ∀ b o, h0.get? b = some o → h'.get? b = some o := fun b o e => (sb.2 b fun z => by rw [z, S0] at e; cases e).trans (kp' b o e)
    refine wpAny_pure ⟨plainId_quiet F.plain_set_update_loop _, ih (i + 1) _ (by omega) lt (W.frame _ s' _ _ st' (Nat.le_add_right _ _) fun b hb o e => ?_) kp2 ⟨L', es', ep', t', M2, g.next hp c1 c2⟩ fun s'' L2 es2 ep2 t2 mv2 M3 g3 kp3 => ?_⟩
    · rw [sb.2 b fun z : b = S => hS (by rw [← z]; exact hb)]; exact e
    · refine fin s'' L2 es2 ep2 t2 (Moved.trans W.gtrans ((mv.mono up).then_heap (Nat.le_add_right _ _) fun b o hb e => ?_) mv2) M3 g3 kp3
      rw [sb.2 b fun z : b = S => hb (by rw [z]; exact List.mem_cons_self)]; exact e
set_option maxHeartbeats 3200000 in
theorem call_setM {l : Addr} {its : Array Value} (ks : List (Addr × List L2.Key)) {Q : Value → Shared → Prop} (hh : A.handled = none) (hl : s.heap.IsList l its) (hit : its.toList = ks.map fun p => Value.ref p.1) (mk : ∀ p ∈ ks, Mx P w s.heap p.2 p.1)
    (fw : ks.length < 64) (hu : A.units + 3 < cLine)
    (q : ∀ (h' : Heap) (tk : Nat) L es ep t, MSet P w h' s.heap.objs.size L es ep t → Has ks ks.length L → (∀ b o, s.heap.get? b = some o → h'.get? b = some o) → Q (.ref s.heap.objs.size) { s with heap := h', toks := tk }) :
    wpAny (model P w) A (call (.type "set") [.ref l]) Q E s := by
  have iz : its.size = ks.length := by rw [← Array.length_toList, hit, List.length_map]
  obtain ⟨c, tl, hmro⟩ := F.called_set.mro
  have g1 := F.called_set.made
  have g2 := F.called_set.sub
  refine wpAny_call (codeAny_of_tree ?_)
  show wpAny _ _ (callAny (.type "set") _) _ _ _
  refine wpAny_pure ⟨Code.quiet_builtin _ (by decide +kernel), codeAny_builtin F.entry_type_call ?_⟩
  rw [Around.under_plain (weight_type_call_type "set" [.ref l] []) rfl]
  have g3 := F.called_set.notType
  have g4 := F.called_set.canCreate
  have g5 := F.typeCall_set_1 (.ref l)
  repeat (any_goals (first | assumption | wp_step))
  refine codeAny_mono (code_set_led1 (.ref l) (E := E) (Q₁ := fun v s₁ => v = .ref s.heap.objs.size ∧ s₁ = { s with heap := s.heap.push (newS w) }) ⟨rfl, rfl⟩) fun r s₁ hr => ?_
  cases r with
  | error e => exact hr
  | ok fl =>
    cases fl with
    | ret v =>
      obtain ⟨rfl, rfl⟩ := hr
      have hS : (s.heap.push (newS w)).get? s.heap.objs.size = some (newS w) := Heap.get?_push_size _ rfl
      have hT : Shared.TypeIs { s with heap := s.heap.push (newS w) } (.ref s.heap.objs.size) "set" := ⟨_, hS, rfl⟩
      have g6 := F.called_set.init.lookup
      have g7 := F.called_set.init.bind (.ref s.heap.objs.size)
      repeat (any_goals (first | assumption | wp_step))
      refine codeAny_mono (codeAny_call_builtin (R := wants (fun r s₂ => r = .none ∧ ∃ h' tk L es ep t, s₂ = { s with heap := h', toks := tk } ∧ MSet P w h' s.heap.objs.size L es ep t ∧ Has ks ks.length L ∧ (∀ b o, s.heap.get? b = some o → h'.get? b = some o)) E)
        F.called_set.init.plain F.entry_set_init (check_set_init_1 hT ?_)) fun r₂ s₂ hr₂ => ?_
      · obtain ⟨ol, hol, hcl, nl, hdl⟩ := hl
        obtain ⟨ocls, odict, odata, oslots⟩ := ol
        simp only at hcl hdl
        subst hcl; subst hdl
        have ol2 : (s.heap.push (newS w)).get? l = some { cls := .type "list", dict := odict, data := .seq its nl, slots := oslots } := Heap.get?_push_of_some _ hol
        have g8 := F.sub_list_set
        have g9 := F.sub_list_frozenset
        have g10 : (Value.type "list" == Value.type "dict") = false := by decide
        have hl1 : (s.heap.push (newS w)).IsList l its := ⟨_, ol2, rfl, nl, rfl⟩
        unfold Builtin.«set.__init__» noKeywords Builtin.Frozenset.updateFrom
        generalize hPI : pyIter = PI
        wp_walk
        subst hPI
        refine wpAny_pyIter_list hl1 (wpAny_bind (wpAny_runValue ?_))
        have ll : l < s.heap.objs.size := Heap.lt_size hol
        have h3 : A.in1.in1.in1.handled = none := by simp [hh]
        have z : (s.heap.push (newS w)).objs.size = s.heap.objs.size + 1 := Heap.size_push ..
        have nI : l ≠ (s.heap.push (newS w)).objs.size := by rw [z]; exact Nat.ne_of_lt (Nat.lt_succ_of_lt ll)
        have nS : s.heap.objs.size ∉ [(s.heap.push (newS w)).objs.size, l] := by
          rw [z]; simp only [List.mem_cons, List.mem_singleton, List.not_mem_nil, or_false, not_or]
          exact ⟨Nat.ne_of_lt (Nat.lt_succ_self _), Nat.ne_of_gt ll⟩
        have hv : ∀ (i : Nat) (v : Value), its[i]? = some v → ∃ p, ks[i]? = some p ∧ v = .ref p.1 := fun i v e => by
          rw [← Array.getElem?_toList, hit, List.getElem?_map] at e
          cases y : ks[i]? with
          | none => rw [y] at e; cases e
          | some p => rw [y] at e; exact ⟨p, rfl, (Option.some.inj e).symm⟩
        have out : ∀ b, s.heap.objs.size ≤ b → s.heap.get? b = none := fun b hb => by
          cases y : s.heap.get? b with
          | none => rfl
          | some o => exact absurd (Nat.lt_of_lt_of_le (Heap.lt_size y) hb) (Nat.lt_irrefl _)
        refine fill_set ((Walks.list h3 _ l nI its).toS) s.heap.objs.size nS ks iz fw hv s.heap mk (out _ (Nat.le_refl _)) (fun b hb => out b (by rw [List.mem_singleton.mp hb, z]; exact Nat.le_succ _)) hu (its.size - 0) 0 _ (by omega) (Nat.zero_le _)
          ⟨⟨_, Heap.get?_push_size _ rfl, rfl, rfl⟩, (hl1.push _)⟩ (fun b o e => Heap.get?_push_of_some _ (Heap.get?_push_of_some _ e)) ⟨[], #[], 0, _, mset_new (Heap.get?_push_of_some _ hS), ⟨(fun p h => nomatch h), (fun p h => by simp at h), Nat.le_refl _⟩⟩ ?_
        intro s' L es ep t mv MS g kp
        obtain ⟨h', gg, d', tk', os'⟩ := s'
        obtain rfl : gg = s.gens := mv.gens
        obtain rfl : d' = s.drawn := mv.drawn
        obtain rfl : os' = s.os := mv.os
        show wpAny _ _ _ _ _ _
        refine wpAny_pure ?_
        show wpAny _ _ (ret Value.none) _ _ _
        rw [iz] at g
        exact wpAny_pure ⟨rfl, h', tk', L, es, ep, t, rfl, MS, g, kp⟩
      · cases r₂ with
        | error e => exact hr₂
        | ok fl₂ =>
          cases fl₂ with
          | ret r =>
            obtain ⟨rfl, h', tk, L, es, ep, t, rfl, MS, g, kp⟩ := hr₂
            repeat (any_goals (first | assumption | wp_step))
            exact q _ _ _ _ _ _ MS g kp
          | _ => exact hr₂.elim
    | _ => exact hr.elim
end
end Q
namespace Q
open PySem PySem.Spec PyProof.Rows L2 PySem.W PySem.Calls
structure MSet0 (P : Program) (w : World) (h : Heap) (a : Addr) (L : List (Addr × List L2.Key)) : Prop where
  ex : ∃ (es : Array (Int × Value)) (ep : Nat) (t : SetTable), (∃ o, h.get? a = some o ∧ o.ExactSet ∧ o.data = .set es ep t) ∧ es.toList = L.map (mrow P w) ∧ TabOk t (L.map fun p => mhs P w p.2) ∧ (L.map (·.2)).Nodup ∧
    (w.params.followText "set-order" = true ∨ t.led = true) ∧ L.length * 5 < t.mask * 3 ∧ L.length < 64
def MxO (P : Program) (w : World) (a : Addr) (L : List (Addr × List L2.Key)) : HO := .ext fun h => MSet0 P w h a L
theorem mxO_new {P : Program} {w : World} {H : Hp} {h : Heap} {a : Addr} {L : List (Addr × List L2.Key)} {es : Array (Int × Value)} {ep : Nat} {t : SetTable} (R : MSet P w h a L es ep t) : ObjOk P w H h a (MxO P w a L) := by
  obtain ⟨o, ho, r⟩ := R.ob
  refine ⟨⟨es, ep, t, ⟨o, ho, r⟩, R.row, R.tb, R.un, R.ld, R.rm, R.fw⟩, ⟨o, ho⟩, fun h1 h2 p k => ?_⟩
  obtain ⟨es', ep', t', ⟨o', ho', r'⟩, q'⟩ := MSet0.ex p
  exact ⟨es', ep', t', ⟨o', k o' ho', r'⟩, q'⟩
theorem jn8 : ∀ {ks : List (Addr × List L2.Key)} {us : List Value}, Vals (ks.map fun p => V.ref p.1) us → us = ks.map fun p => Value.ref p.1
  | [], _, .nil => rfl
  | p :: ks, _, .cons r t => by cases r; rw [jn8 t]; rfl
theorem jn9 : ∀ (ks : List (Addr × List L2.Key)), Vals (ks.map fun p => V.ref p.1) (ks.map fun p => Value.ref p.1)
  | [] => .nil
  | p :: ks => .cons rfl (jn9 ks)
theorem joa {α β : Type} [DecidableEq α] {f : α → β} : ∀ {ys : List β} {xs : List α}, ys.Perm (xs.map f) → ∃ zs : List α, zs.Perm xs ∧ ys = zs.map f
  | [], xs, h => by
    have e := h.length_eq
    rw [List.length_map] at e
    exact ⟨[], by rw [List.length_eq_zero_iff.mp e.symm], rfl⟩
  | y :: ys, xs, h => by
    obtain ⟨x, hx, rfl⟩ := List.mem_map.mp (h.mem_iff.mp List.mem_cons_self)
    have p1 := List.perm_cons_erase hx
    have p2 : ys.Perm ((xs.erase x).map f) := List.Perm.cons_inv (h.trans (p1.map f))
    obtain ⟨zs, z1, z2⟩ := joa p2
    exact ⟨x :: zs, (z1.cons x).trans p1.symm, by rw [z2]; rfl⟩
abbrev rSetM (K : PySem.W.Frag) (P : Program) (w : World) : RV := fun vs H Q => ∃ (l : Addr) (ks : List (Addr × List L2.Key)), vs = [.ref l] ∧ SqL K H l (ks.map fun p => V.ref p.1) ∧ (∀ p ∈ ks, SqT K H p.1 (p.2.map kV)) ∧ ks.length < 64 ∧
  ∀ (a : Addr) (L : List (Addr × List L2.Key)), H a = none → (∀ p ∈ L, p ∈ ks) → (∀ p ∈ ks, p.2 ∈ L.map (·.2)) → (L.map (·.2)).Nodup → Q (.ref a) (upd H a (MxO P w a L))
abbrev rLenM (P : Program) (w : World) : RV := fun vs H Q => ∃ (a : Addr) (L : List (Addr × List L2.Key)), vs = [.ref a] ∧ H a = some (MxO P w a L) ∧ Q (.int (L.length : Int)) H
abbrev rSortM (K : PySem.W.Frag) (P : Program) (w : World) : RV := fun vs H Q => ∃ (a : Addr) (L : List (Addr × List L2.Key)), vs = [.ref a] ∧ H a = some (MxO P w a L) ∧ (∀ p ∈ L, SqT K H p.1 (p.2.map kV)) ∧
  ∀ L' : List (Addr × List L2.Key), L'.Perm L → ∃ ps : List (V × PyData), (L'.map fun q => V.ref q.1) = ps.map Prod.fst ∧ (∀ p ∈ ps, Dp K H p.1 p.2) ∧ AllAlike (ps.map Prod.snd) ∧ Sortable (ps.map Prod.snd) ∧ (∀ p ∈ ps, p.2.depth ≤ 60) ∧
    ∀ p, H p = none → Q (.ref p) (upd H p (.lst ((ps.mergeSort (dataLe false Prod.snd)).map Prod.fst)))
section
variable {X : Cx}
theorem _root_.L2.Inv.mx {pins : List (Addr × Obj)} {σ : Sg} {H : Hp} {s : Shared} {b : Addr} {k : List L2.Key} (I : Inv X pins σ H s) (h : SqT X.K H b (k.map kV)) : Mx X.prog X.w s.heap k b := by
  obtain ⟨its, r, ⟨o, ho, hc, n, hd⟩, _⟩ := I.tuple h
  exact ⟨o, its.toArray, n, ho, hc, hd, by simpa using items_are r⟩
theorem cr_setM (hc : X.calm = true) (hu : X.A.units + 66 < cLine) : CallR X (.type "set") (rSetM X.K X.prog X.w) := by
  rintro pins s σ H vs us Q I r ⟨l, ks, rfl, hl, hk, hf, q⟩
  rw [Vals.ref1 r]
  obtain ⟨its, rv, pl, hz⟩ := I.list hl
  have hn : H s.heap.objs.size = none := I.hok.fresh (Nat.le_refl _)
  refine call_setM (P := X.prog) (w := X.w) ks (I.ok.hd hc) pl.isList (by simpa using jn8 rv) (fun p hp => I.mx (hk p hp)) hf (by omega) fun h' tk L es ep t R g k => ?_
  exact ⟨.ref s.heap.objs.size, upd H s.heap.objs.size (MxO X.prog X.w s.heap.objs.size L), I.laid (t' := tk) k (Nat.le_refl _) (mxO_new R), rfl, q _ L hn (fun p hp => List.mem_of_mem_take (g.sub p hp)) (fun p hp => g.all p (by rw [List.take_length]; exact hp)) R.un⟩
theorem cr_lenM : CallR X (.builtin "len") (rLenM X.prog X.w) := by
  rintro pins s σ H vs us Q I r ⟨a, L, rfl, ha, q⟩
  rw [Vals.ref1 r]
  have R : MSet0 X.prog X.w s.heap a L := (I.hok a _ ha).1
  obtain ⟨es, ep, t, ⟨o, ho, hex, hd⟩, row, tb, un, ld, rm, fw⟩ := R.ex
  have sz := jgj row
  have ft : t.fits es.size = true := jkd row (by have := tb.sz; rw [List.length_map] at this; rw [this, sz]) tb.dm (by omega)
  rw [← sz] at q
  exact call_len_set ho hex hd ft (by omega) ⟨.int es.size, H, I.tok _, ⟨_, rfl⟩, q⟩
theorem cr_sortM (hc : X.calm = true) (hu : X.A.units + 66 < cLine) : CallR X (.builtin "sorted") (rSortM X.K X.prog X.w) := by
  rintro pins s σ H vs us Q I r ⟨a, L, rfl, ha, hk, q⟩
  rw [Vals.ref1 r]
  have R : MSet0 X.prog X.w s.heap a L := (I.hok a _ ha).1
  obtain ⟨es, ep, t, ⟨o, ho, hex, hd⟩, row, tb, un, ld, rm, fw⟩ := R.ex
  have sz := jgj row
  have ft : t.fits es.size = true := jkd row (by have := tb.sz; rw [List.length_map] at this; rw [this, sz]) tb.dm (by omega)
  refine Calls.call_function_entry kind_sorted plain_sorted entry_sorted (args_sorted1 _) ?_
  unfold Builtin.«sorted»
  refine wpAny_bind (m := checkCount "sorted" 1 1 _) (wpAny_pure ?_)
  refine wpAny_bind (collect_set (A := X.A.in1) (I.ok.hd hc) ⟨o, ho, hex.1, hd⟩ ft (by unfold scanBound; omega) tb.ris ld fun s1 out kp hz g1 o1 pm => ?_)
  have er0 : es.toList.map (·.2) = L.map fun q => Value.ref q.1 := by rw [row, List.map_map]; rfl
  rw [er0] at pm
  obtain ⟨L', pL, eL⟩ := joa pm
  obtain ⟨ps, e1, hdp, al, so, dp, k⟩ := q L' pL
  have rv : Vals (ps.map Prod.fst) out := by rw [← e1, eL]; exact jn9 L'
  have hal : out.length = ps.length := by have := rv.length; rw [List.length_map] at this; omega
  have hps : ps.length < 64 := by rw [← hal, eL, List.length_map, pL.length_eq]; exact fw
  have hz2 : ps.length ≤ sizeLine := by rw [sizeLine_eq]; omega
  have I0 : Inv X pins σ H { s with heap := s1.heap, gens := s1.gens, drawn := s1.drawn, toks := s1.toks } :=
    I.call (ch := []) (Un.kept kp) (I.hok.kept kp) (by rw [g1]; exact I.bare) (fun _ z => nomatch z)
  have es1 : s1 = { s with heap := s1.heap, gens := s1.gens, drawn := s1.drawn, toks := s1.toks } := by
    cases s1
    cases s
    cases o1
    rfl
  have I1 : Inv X pins σ H s1 := by rw [es1]; exact I0
  refine wpAny_bind (wpAny_newList ?_ (by rw [hal]; exact hz2))
  obtain ⟨hp, ehp⟩ : ∃ hp, hp = s1.heap.push (seqObj "list" out.toArray 0) := ⟨_, rfl⟩
  have hoL : hp.get? s1.heap.objs.size = some (seqObj "list" out.toArray 0) := by rw [ehp]; exact Heap.get?_push_size _ rfl
  have old : ∀ b o, s1.heap.get? b = some o → hp.get? b = some o := fun b o e => by rw [ehp]; exact Heap.get?_push_of_some _ e
  have e0 := jka rv hdp
  have er : EachIs (fun (u : Value) (b : V × PyData) => ∃ as, Reads (sortingHeap hp s1.heap.objs.size out) u b.2 as) out ps := e0.mono fun u b ⟨h1, h2⟩ => by
    obtain ⟨as, rd⟩ := Dp.reads I1 b.2 b.1 u h2 h1
    exact ⟨as, PyProof.Rows.Reads.keeps (fun c oc qc => sortingHeap_old (Nat.ne_of_lt (Heap.lt_size qc)) (old c oc qc)) rd⟩
  show wpAny _ _ _ _ _ { s1 with heap := s1.heap.push (seqObj "list" out.toArray 0) }
  rw [← ehp]
  refine wpAny_bind (wpAny_holding (wpAny_call_entry slot_list_sort ⟨_, hoL, rfl⟩ entry_list_sort (list_sort_vals (s := { s1 with heap := hp }) (κ := dataKind (sortingHeap hp s1.heap.objs.size out) (ps.map Prod.snd)) hoL
    (SortsAt.data (s := { s1 with heap := sortingHeap hp s1.heap.objs.size out }) (each_map (R := fun v d => ∃ as, Reads (sortingHeap hp s1.heap.objs.size out) v d as) Prod.snd er) al so (bound_map (enc := Prod.snd) ?_)) (by rw [hal]; exact hz2) ⟨.none, rfl, ?_⟩) (args_list_sort _)))
  · intro b hb
    have := dp b hb
    have := hu
    show X.A.units + 1 + 1 + b.2.depth < cLine
    omega
  · obtain ⟨c, hcc⟩ := sortedHeap_at (vs := out) (out := (sortVals (κ := dataKind (sortingHeap hp s1.heap.objs.size out) (ps.map Prod.snd)) false out out).toArray) hoL
    have eo := sortVals_data (enc := Prod.snd) false e0 er al
    refine wpAny_pure ⟨_, rfl, .ref s1.heap.objs.size, upd H s1.heap.objs.size (.lst ((ps.mergeSort (dataLe false Prod.snd)).map Prod.fst)), I1.laid (t' := s1.toks) (fun b u e => ?_) (Nat.le_refl _) ⟨by rw [List.length_map, List.length_mergeSort]; exact hz2, _, c, jkb eo, hcc⟩, rfl, k _ (I1.hok.fresh (Nat.le_refl _))⟩
    have hb := Heap.lt_size e
    exact (sortedHeap_old (Nat.ne_of_lt hb) (by rw [ehp, size_push']; exact Nat.lt_succ_of_lt hb)).trans (old b u e)
end
end Q
namespace Q
open PySem PySem.Spec PyProof.Rows L2 PySem.W PySem.Calls
variable [tbI : Tbl]
include tbI
def keyOf : T → Option L2.Key
  | .int i => some (.inl i)
  | .str x => some (.inr x)
  | _ => none
def keysOf : List T → Option (List L2.Key)
  | [] => some []
  | t :: ts => match keyOf t, keysOf ts with
    | some k, some ks => some (k :: ks)
    | _, _ => none
abbrev tupK (ks : List L2.Key) : T := .tup (ks.map keyT)
def keyss : List T → Option (List (List L2.Key))
  | [] => some []
  | .tup ts :: us => (match keysOf ts, keyss us with
    | some k, some ks => some (k :: ks)
    | _, _ => none)
  | _ :: _ => none
def dedK : List (List L2.Key) → List (List L2.Key)
  | [] => []
  | x :: xs => if (xs.any fun y => decide (y = x)) = true then dedK xs else x :: dedK xs
theorem any_in {xs : List (List L2.Key)} {x : List L2.Key} : (xs.any fun y => decide (y = x)) = true ↔ x ∈ xs := by
  rw [List.any_eq_true]
  exact ⟨fun ⟨y, h1, h2⟩ => of_decide_eq_true h2 ▸ h1, fun h => ⟨x, h, decide_eq_true rfl⟩⟩
theorem dedK_mem : ∀ {xs : List (List L2.Key)} {k : List L2.Key}, k ∈ dedK xs ↔ k ∈ xs
  | [], k => Iff.rfl
  | x :: xs, k => by
    rw [dedK]
    split
    · rename_i h
      rw [dedK_mem, List.mem_cons]
      exact ⟨.inr, fun z => z.elim (fun e => e ▸ any_in.mp h) id⟩
    · rw [List.mem_cons, List.mem_cons, dedK_mem]
theorem jmp : ∀ xs : List (List L2.Key), (dedK xs).Nodup
  | [] => List.nodup_nil
  | x :: xs => by
    rw [dedK]
    split
    · exact jmp xs
    · rename_i h
      exact List.nodup_cons.mpr ⟨fun z => h (any_in.mpr (dedK_mem.mp z)), jmp xs⟩
def fSSM : List T → Option T
  | [.lst _ ts] => match keyss ts with
    | some ks => if (decide (ks.length < 64) && srtOk ts) = true then some (.lst true (((dedK ks).map tupK).mergeSort T.le)) else none
    | none => none
  | _ => none
def fLSM : List T → Option T
  | [.lst _ ts] => match keyss ts with
    | some ks => if ks.length < 64 then some (.int ((dedK ks).length : Int)) else none
    | none => none
  | _ => none
theorem jlr : ∀ {ts : List T} {ks : List L2.Key}, keysOf ts = some ks → ts = ks.map keyT
  | [], ks, e => by cases e; rfl
  | t :: ts, ks, e => by
    unfold keysOf at e
    split at e
    · rename_i k ks' h1 h2
      cases e
      have h1 : t = keyT k := by
        cases t <;> first | (cases h1; rfl) | cases h1
      rw [h1, jlr h2]; rfl
    · cases e
theorem leq_to (a b : T) : (T.le a b || T.le b a) = true := by
  show (!lexLt itemOrd (keyToks b.toD) (keyToks a.toD) || !lexLt itemOrd (keyToks a.toD) (keyToks b.toD)) = true
  cases h1 : lexLt itemOrd (keyToks b.toD) (keyToks a.toD) with
  | false => rfl
  | true =>
    cases h2 : lexLt itemOrd (keyToks a.toD) (keyToks b.toD) with
    | false => rfl
    | true =>
      have := (listOrd itemOrd).trans _ _ _ h1 h2
      have z := (listOrd itemOrd).irrefl (keyToks b.toD)
      rw [z] at this; cases this
theorem leq_tr (a b c : T) (h1 : T.le a b = true) (h2 : T.le b c = true) : T.le a c = true := by
  change (!lexLt itemOrd (keyToks b.toD) (keyToks a.toD)) = true at h1
  change (!lexLt itemOrd (keyToks c.toD) (keyToks b.toD)) = true at h2
  show (!lexLt itemOrd (keyToks c.toD) (keyToks a.toD)) = true
  rw [Bool.not_eq_true'] at h1 h2 ⊢
  cases h : lexLt itemOrd (keyToks c.toD) (keyToks a.toD) with
  | false => rfl
  | true =>
    rcases (listOrd itemOrd).negTrans _ (keyToks b.toD) _ h with z | z
    · have : lexLt itemOrd (keyToks c.toD) (keyToks b.toD) = true := z
      rw [h2] at this; cases this
    · have : lexLt itemOrd (keyToks b.toD) (keyToks a.toD) = true := z
      rw [h1] at this; cases this
theorem jke : ∀ {k l : List L2.Key}, keyToksAll (toDs (k.map keyT)) = keyToksAll (toDs (l.map keyT)) → k = l
  | [], [], _ => rfl
  | [], y :: l, h => by
    simp only [List.map_nil, List.map_cons, toDs, keyToksAll, List.cons.injEq, Sum.inl.injEq] at h
    omega
  | x :: k, [], h => by
    simp only [List.map_nil, List.map_cons, toDs, keyToksAll, List.cons.injEq, Sum.inl.injEq] at h
    omega
  | x :: k, y :: l, h => by
    have key : ∀ c : L2.Key, (keyT c).toD = (match c with | .inl i => .int i | .inr x => .str x) := fun c => by cases c <;> rfl
    simp only [List.map_cons, toDs, keyToksAll, List.cons.injEq, true_and] at h
    cases x <;> cases y <;> simp only [key, keyToks, List.cons_append, List.nil_append, List.cons.injEq, Sum.inl.injEq, Sum.inr.injEq, reduceCtorEq, false_and] at h
    · rw [h.1, jke h.2]
    · rename_i x y
      obtain ⟨⟨x⟩⟩ := x
      obtain ⟨⟨y⟩⟩ := y
      have e : x = y := h.1
      rw [e, jke h.2]
theorem leq_an {k l : List L2.Key} (h1 : T.le (tupK k) (tupK l) = true) (h2 : T.le (tupK l) (tupK k) = true) : k = l := by
  change (!lexLt itemOrd (keyToks (tupK l).toD) (keyToks (tupK k).toD)) = true at h1
  change (!lexLt itemOrd (keyToks (tupK k).toD) (keyToks (tupK l).toD)) = true at h2
  rw [Bool.not_eq_true'] at h1 h2
  exact jke ((listOrd itemOrd).total _ _ h2 h1)
theorem sort_ks {ks ls : List (List L2.Key)} (p : ks.Perm ls) : (ks.map tupK).mergeSort T.le = (ls.map tupK).mergeSort T.le := by
  refine List.Perm.eq_of_pairwise (le := fun a b => T.le a b = true) (fun a b ha hb h1 h2 => ?_) (List.pairwise_mergeSort leq_tr leq_to _) (List.pairwise_mergeSort leq_tr leq_to _) (((List.mergeSort_perm _ _).trans (p.map tupK)).trans (List.mergeSort_perm _ _).symm)
  obtain ⟨k, _, rfl⟩ := List.mem_map.mp ((List.mergeSort_perm _ _).mem_iff.mp ha)
  obtain ⟨l, _, rfl⟩ := List.mem_map.mp ((List.mergeSort_perm _ _).mem_iff.mp hb)
  rw [leq_an h1 h2]
section
variable {K : PySem.W.Frag} {H : Hp} {M : MS}
theorem job : ∀ {f : List Addr} {vs : List V} {ks : List L2.Key}, Reps K H M f vs (ks.map keyT) → vs = ks.map kV
  | _, _, [], .nil => rfl
  | _, _, k :: ks, .cons r rs => by
    rw [job rs]
    cases k with
    | inl i => cases r; rfl
    | inr x => cases r; rfl
theorem joc {f : List Addr} {v : V} {ks : List L2.Key} (r : Rep K H M f v (tupK ks)) : ∃ a, v = .ref a ∧ SqT K H a (ks.map kV) ∧ Rep K H M [] (.ref a) (tupK ks) := by
  have fr : ∀ l : List L2.Key, frs (l.map keyT) = true := fun l => by
    induction l with
    | nil => rfl
    | cons k l ih => cases k <;> exact ih
  have e : f = [] := r.fpNil (fr ks)
  subst e
  generalize ht : tupK ks = t at r
  cases r with
  | tup h rs =>
    cases ht
    rw [job rs] at h rs
    exact ⟨_, rfl, .inl (Rd.of h), .tup h rs⟩
  | _ => cases ht
theorem ji1 : ∀ {ts : List T} {kss : List (List L2.Key)} {f : List Addr} {vs : List V}, keyss ts = some kss → Reps K H M f vs ts → ts = kss.map tupK ∧ ∃ ks : List (Addr × List L2.Key), vs = (ks.map fun p => V.ref p.1) ∧ ks.map (·.2) = kss ∧ ∀ p ∈ ks, SqT K H p.1 (p.2.map kV) ∧ Rep K H M [] (.ref p.1) (tupK p.2)
  | [], kss, _, _, e, .nil => by cases e; exact ⟨rfl, [], rfl, rfl, fun p h => nomatch h⟩
  | t :: ts, kss, _, _, e, .cons r rs => by
    unfold keyss at e
    split at e
    · cases ‹t :: ts = []›
    · rename_i us ws eq
      cases eq
      split at e
      · rename_i k ks h1 h2
        cases e
        obtain ⟨e1, ks', e2, e3, e4⟩ := ji1 h2 rs
        rw [jlr h1] at r
        obtain ⟨a, rfl, s, r'⟩ := joc r
        refine ⟨by rw [jlr h1, e1]; rfl, (a, k) :: ks', by rw [e2]; rfl, by rw [← e3]; rfl, fun p hp => ?_⟩
        rcases List.mem_cons.mp hp with rfl | hp
        · exact ⟨s, r'⟩
        · exact e4 p hp
      · cases e
    · cases e
theorem o_ssM {P : Program} {w : World} : BOp K (fun vs H Q => rSetM K P w vs H fun v H1 => rSortM K P w [v] H1 Q) fSSM := by
  intro H M vs ts t Q rb e k
  unfold fSSM at e
  split at e
  · rename_i o ts
    split at e
    · rename_i kss hx
      split at e
      · rename_i hl
        cases e
        rw [Bool.and_eq_true, decide_eq_true_eq] at hl
        obtain ⟨hl, so⟩ := hl
        obtain ⟨v, fp, rfl, r⟩ := rb1 rb
        obtain ⟨l, ys, fq, rfl, hs, rs⟩ := jfp r
        obtain ⟨rfl, ks, rfl, ek, hk⟩ := ji1 hx rs
        obtain ⟨_, _, s3, s4, s5⟩ := jmm so
        refine ⟨l, ks, rfl, hs, fun p hp => (hk p hp).1, by rw [← ek, List.length_map] at hl; exact hl, fun a L ha h1 h2 nd => ?_⟩
        have fm : Frm H M [] (upd H a (MxO P w a L)) M := jmj ha
        have st : Stp H M [] (upd H a (MxO P w a L)) M [] := ⟨fm, fun b hb => nomatch hb⟩
        have rp : ∀ p ∈ L, Rep K (upd H a (MxO P w a L)) M [] (.ref p.1) (tupK p.2) := fun p hp => (hk p (h1 p hp)).2.frm fm (fun b hb => nomatch hb) fun b hb => nomatch hb
        have sq : ∀ p ∈ L, SqT K (upd H a (MxO P w a L)) p.1 (p.2.map kV) := fun p hp => by
          obtain ⟨b, e, s, _⟩ := joc (rp p hp)
          cases e
          exact s
        have mem : ∀ p ∈ L, p.2 ∈ kss := fun p hp => by rw [← ek]; exact List.mem_map_of_mem (h1 p hp)
        refine ⟨a, L, rfl, upd_same, sq, fun L' pL => ?_⟩
        have mt : ∀ q ∈ L', tupK q.2 ∈ kss.map tupK := fun q hq => List.mem_map_of_mem (mem q (pL.mem_iff.mp hq))
        obtain ⟨qs, hqs⟩ : ∃ qs : List (V × T), qs = L'.map fun q => (V.ref q.1, tupK q.2) := ⟨_, rfl⟩
        have qm : ∀ p ∈ qs, p.2 ∈ kss.map tupK ∧ Rep K (upd H a (MxO P w a L)) M [] p.1 p.2 := fun p hp => by
          rw [hqs] at hp
          obtain ⟨q, hq, rfl⟩ := List.mem_map.mp hp
          exact ⟨mt q hq, rp q (pL.mem_iff.mp hq)⟩
        have sub : ∀ d ∈ (qs.map fun q => (q.1, q.2.toD)).map Prod.snd, d ∈ (kss.map tupK).map T.toD := fun d hd => by
          rw [List.map_map] at hd
          obtain ⟨q, hq, rfl⟩ := List.mem_map.mp hd
          exact List.mem_map_of_mem (qm q hq).1
        refine ⟨qs.map fun q => (q.1, q.2.toD), by rw [hqs, List.map_map, List.map_map]; rfl, fun p hp => ?_, fun d hd d' hd' => s4 d (sub d hd) d' (sub d' hd'), s5.imp (fun z d hd => z d (sub d hd)) (fun z d hd => z d (sub d hd)), fun p hp => ?_, fun p hp => ?_⟩
        · obtain ⟨q, hq, rfl⟩ := List.mem_map.mp hp
          exact (qm q hq).2.dp (s3 _ (qm q hq).1).1
        · obtain ⟨q, hq, rfl⟩ := List.mem_map.mp hp
          exact Nat.le_trans (jej _) (s3 _ (qm q hq).1).2
        · rw [jmn]
          have rr := jiz (K := K) (H := upd H a (MxO P w a L)) (M := M) (qs := qs.mergeSort fun a b => a.2.le b.2) fun q hq => (qm q ((List.mergeSort_perm qs _).mem_iff.mp hq)).2
          rw [jnx] at rr
          have e1 : qs.map Prod.snd = (L'.map (·.2)).map tupK := by rw [hqs, List.map_map, List.map_map]; rfl
          have pm : (L'.map (·.2)).Perm (dedK kss) := (List.perm_ext_iff_of_nodup ((pL.map (·.2)).nodup_iff.mpr nd) (jmp kss)).mpr fun z => by
            rw [dedK_mem, (pL.map (·.2)).mem_iff, ← ek]
            exact ⟨fun hz => by obtain ⟨p, hp, rfl⟩ := List.mem_map.mp hz; exact List.mem_map_of_mem (h1 p hp), fun hz => by obtain ⟨p, hp, rfl⟩ := List.mem_map.mp hz; exact h2 p hp⟩
          rw [e1, sort_ks pm] at rr
          obtain ⟨w1, w2, w3⟩ := jkw hp rr .nil
          exact k _ _ _ _ w1 w2 (st.trans0 w3)
      · cases e
    · cases e
  · cases e
theorem o_lsM {P : Program} {w : World} : BOp K (fun vs H Q => rSetM K P w vs H fun v H1 => rLenM P w [v] H1 Q) fLSM := by
  intro H M vs ts t Q rb e k
  unfold fLSM at e
  split at e
  · rename_i o ts
    split at e
    · rename_i kss hx
      split at e
      · rename_i hl
        cases e
        obtain ⟨v, fp, rfl, r⟩ := rb1 rb
        obtain ⟨l, ys, fq, rfl, hs, rs⟩ := jfp r
        obtain ⟨rfl, ks, rfl, ek, hk⟩ := ji1 hx rs
        refine ⟨l, ks, rfl, hs, fun p hp => (hk p hp).1, by rw [← ek, List.length_map] at hl; exact hl, fun a L ha h1 h2 nd => ⟨a, L, rfl, upd_same, ?_⟩⟩
        have st : Stp H M [] (upd H a (MxO P w a L)) M [] := ⟨jmj ha, fun b hb => nomatch hb⟩
        have pm : (L.map (·.2)).Perm (dedK kss) := (List.perm_ext_iff_of_nodup nd (jmp kss)).mpr fun z => by
          rw [dedK_mem, ← ek]
          exact ⟨fun hz => by obtain ⟨p, hp, rfl⟩ := List.mem_map.mp hz; exact List.mem_map_of_mem (h1 p hp), fun hz => by obtain ⟨p, hp, rfl⟩ := List.mem_map.mp hz; exact h2 p hp⟩
        have el : L.length = (dedK kss).length := by rw [← pm.length_eq, List.length_map]
        rw [el]
        exact k _ _ M [] (.int _) .nil st
      · cases e
    · cases e
  · cases e
end
section
variable {X : Cx} {pv : Pins} {W : WX} {e : Expr} {p p2 pos pos2 : Pos} {r : Dr} {ds : Da}
theorem b_ssM (hc : X.calm = true) (hu : X.A.units + 66 < cLine) (ha : RA X pv [e] [r]) (hm : X.mg "sorted" = none) (hm2 : X.mg "set" = none) (hg : Gl X "sorted" := by rfl) (hg2 : Gl X "set" := by rfl)
    (he : starEach [e] X.env = (false, eval e X.env) :: starEach [] X.env := by rfl) (hpl : (backTo pos2 (starEach [] X.env)).any (·.1) = false := by rfl)
    (he2 : starEach [.Call (.Name "set" p2) [e] [] pos2] X.env = (false, eval (.Call (.Name "set" p2) [e] [] pos2) X.env) :: starEach [] X.env := by rfl) (hpl2 : (backTo pos (starEach [] X.env)).any (·.1) = false := by rfl) :
    LE X pv W (.Call (.Name "sorted" p) [.Call (.Name "set" p2) [e] [] pos2] [] pos) (bOp fSSM [r]) :=
  weakE (pe_callB (cr_sortM hc hu) hg hm (by decide +kernel) (pa_cons (pe_callTy (cr_setM hc hu) hg2 hm2 bb_set ha.run (by decide) (by decide) he hpl) pa_nil he2) (by decide) (by decide) he2 hpl2) fun σ H Q ⟨M, F, ρ, S, q⟩ => by
    obtain ⟨ts, t, e1, e2, q⟩ := bOp_ok q
    exact ⟨M, F, ρ, S, ts, e1, fun vs rb => finB (rr := fun vs H Q => rSetM X.K X.prog X.w vs H fun v H1 => rSortM X.K X.prog X.w [v] H1 Q) o_ssM S rb e2 q⟩
theorem l_lsM (hc : X.calm = true) (hu : X.A.units + 66 < cLine) (ha : LA X pv W [e] ds) (hm : X.mg "len" = none) (hm2 : X.mg "set" = none) (hg : Gl X "len" := by rfl) (hg2 : Gl X "set" := by rfl)
    (he : starEach [e] X.env = (false, eval e X.env) :: starEach [] X.env := by rfl) (hpl : (backTo pos2 (starEach [] X.env)).any (·.1) = false := by rfl)
    (he2 : starEach [.Call (.Name "set" p2) [e] [] pos2] X.env = (false, eval (.Call (.Name "set" p2) [e] [] pos2) X.env) :: starEach [] X.env := by rfl) (hpl2 : (backTo pos (starEach [] X.env)).any (·.1) = false := by rfl) :
    LE X pv W (.Call (.Name "len" p) [.Call (.Name "set" p2) [e] [] pos2] [] pos) (vOp fLSM ds) :=
  weakE (pe_callB cr_lenM hg hm (by decide +kernel) (pa_cons (pe_callTy (cr_setM hc hu) hg2 hm2 bb_set ha (by decide) (by decide) he hpl) pa_nil he2) (by decide) (by decide) he2 hpl2) fun σ H Q ⟨M, F, ρ, S, q⟩ =>
    finA (rr := fun vs H Q => rSetM X.K X.prog X.w vs H fun v H1 => rLenM X.prog X.w [v] H1 Q) o_lsM.v S q
end
end Q
namespace Q
open PySem PySem.Spec PyProof.Rows L2
variable [tbI : Tbl]
include tbI
def fmtF (acc : Str) : List T → Option Str
  | [] => some acc
  | .str y :: ts => if y.length ≤ sizeLine ∧ (acc ++ y).length ≤ sizeLine then fmtF (acc ++ y) ts else none
  | .int i :: ts => if i.natAbs.log2 < 1920 ∧ (acc ++ (toString i : Str)).length ≤ sizeLine then fmtF (acc ++ (toString i : Str)) ts else none
  | _ :: _ => none
def fFmt (ts : List T) : Option T := (fmtF Str.empty ts).map .str
inductive PF (X : Cx) (pv : Pins) : List Expr → List Dr → Prop where
  | nil : PF X pv [] []
  | fmt {e : Expr} {r : Dr} {es : List Expr} {rs : List Dr} {pos : Pos} (h : RE X pv e r) (t : PF X pv es rs) : PF X pv (.FormattedValue e (-1) none pos :: es) (r :: rs)
  | txt {e : Expr} {x : Str} {es : List Expr} {rs : List Dr} (h : RE X pv e (rC (.str x))) (t : PF X pv es rs) : PF X pv (e :: es) (rC (.str x) :: rs)
section
variable {X : Cx} {pv : Pins}
theorem PF.join {es : List Expr} {rs : List Dr} (h : PF X pv es rs) : ∃ ts : List TE, PJ X es ts ∧ ∀ (M : MS) (F : List Addr) (ρ : Env) (σ : Sg) (H : Hp) (acc out : Str) (us : List T) (Q : Str → Hp → Prop), Sta X.K pv H M F σ ρ → rs.mapM (fun r => r ρ) = some us → fmtF acc us = some out → Q out H → tJs ts acc σ H Q := by
  induction h with
  | nil =>
    refine ⟨[], .nil, fun M F ρ σ H acc out us Q S e1 e2 q => ?_⟩
    simp at e1
    subst e1
    cases e2
    exact q
  | @fmt e r es rs pos h t ih =>
    obtain ⟨ts, pj, go⟩ := ih
    refine ⟨tFmt (TRd X pv r) :: ts, .cons (pe_fmt h) pj, fun M F ρ σ H acc out us Q S e1 e2 q => ?_⟩
    rw [List.mapM_cons] at e1
    cases er : r ρ with
    | none => rw [er] at e1; cases e1
    | some u =>
      rw [er] at e1
      cases em : List.mapM (fun r => r ρ) rs with
      | none => rw [em] at e1; cases e1
      | some us' =>
        rw [em] at e1
        cases e1
        refine ⟨M, F, ρ, S, u, er, fun v fv rp => ?_⟩
        unfold fmtF at e2
        split at e2
        · rename_i h0; cases h0
        · rename_i y ts' h0
          cases h0
          split at e2
          · rename_i c
            cases rp
            exact .inl ⟨y, rfl, c.1, y, rfl, c.2, go M F ρ σ H _ out _ Q S em e2 q⟩
          · cases e2
        · rename_i i ts' h0
          cases h0
          split at e2
          · rename_i c
            cases rp
            exact .inr ⟨i, rfl, c.1, _, rfl, c.2, go M F ρ σ H _ out _ Q S em e2 q⟩
          · cases e2
        · cases e2
  | @txt e x es rs h t ih =>
    obtain ⟨ts, pj, go⟩ := ih
    refine ⟨TRd X pv (rC (.str x)) :: ts, .cons h pj, fun M F ρ σ H acc out us Q S e1 e2 q => ?_⟩
    rw [List.mapM_cons] at e1
    cases em : List.mapM (fun r => r ρ) rs with
    | none => rw [em] at e1; cases e1
    | some us' =>
      rw [em] at e1
      cases e1
      refine ⟨M, F, ρ, S, .str x, rfl, fun v fv rp => ?_⟩
      rw [fmtF] at e2
      split at e2
      · rename_i c
        cases rp
        exact ⟨x, rfl, c.2, go M F ρ σ H _ out _ Q S em e2 q⟩
      · cases e2
theorem re_fmt {v1 v2 : Expr} {rest : List Expr} {rs : List Dr} {pos : Pos} (h : PF X pv (v1 :: v2 :: rest) rs) : RE X pv (.JoinedStr (v1 :: v2 :: rest) pos) (rOpN fFmt rs) := by
  obtain ⟨ts, pj, go⟩ := h.join
  refine weakE (pe_joined pj) fun σ H Q ⟨M, F, ρ, S, t, e, q⟩ => ?_
  obtain ⟨us, e1, e2⟩ := jjz e
  unfold fFmt at e2
  cases e3 : fmtF Str.empty us with
  | none => rw [e3] at e2; cases e2
  | some out =>
    rw [e3] at e2
    cases e2
    exact go M F ρ σ H _ out us _ S e1 e3 (q _ [] (.str out))
def fFind : List T → Option T
  | [.str a, .str b, .int i] => some (.int (Txt.find3 a b i))
  | _ => none
theorem re_find {o a b : Expr} {apos pos : Pos} {r s u : Dr} (ho : RE X pv o r) (ha : RE X pv a s) (hb : RE X pv b u) (hs : starEach [a, b] X.env = [(false, eval a X.env), (false, eval b X.env)] := by rfl)
    (hbase : attributeBase o "find" X.env (eval o X.env) = eval o X.env := by rfl) (hline : (apos.endLine == pos.line) = true := by rfl) : RE X pv (.Call (.Attribute o "find" apos) [a, b] [] pos) (rOp3 fFind r s u) := by
  refine ⟨fun pins sh σ H Q I h => ?_⟩
  obtain ⟨M, F, ρ, S, t, e, q⟩ := h
  obtain ⟨x, y, z, e1, e2, e3, e4⟩ := rop3_some e
  unfold fFind at e4
  split at e4
  · rename_i xs ys i h0
    cases h0
    cases e4
    refine PySem.Call_method2 hbase hs hline (thn (ho.run pins sh σ H (fun v' H' => v' = .str xs ∧ H' = H) I ⟨M, F, ρ, S, .str xs, e1, fun v fv rp => by cases rp; exact ⟨rfl, rfl⟩⟩) fun v s1 hv => ?_)
    · obtain ⟨_, H1, I1, r1, rfl, rfl⟩ := hv
      obtain ⟨t1, rfl⟩ := _root_.id r1
      refine ⟨"str", _, PySem.F.plainAttrs_str, PySem.F.slot_str_find, PySem.F.type_str_find, typeIs_str _ _ _, (fun _ e => nomatch e), Calls.callWith_builtin rfl (Calls.evalArgs_plain (Calls.spliced_cons ?_))⟩
      refine thn (ha.run pins s1 σ H1 (fun v' H' => v' = .str ys ∧ H' = H1) I1 ⟨M, F, ρ, S, .str ys, e2, fun v fv rp => by cases rp; exact ⟨rfl, rfl⟩⟩) fun v2 s2 hv => Calls.spliced_cons ?_
      obtain ⟨_, H2, I2, r2, rfl, rfl⟩ := hv
      refine thn (hb.run pins s2 σ H2 (fun v' H' => v' = .int i ∧ H' = H2) I2 ⟨M, F, ρ, S, .int i, e3, fun v fv rp => by cases rp; exact ⟨rfl, rfl⟩⟩) fun v3 s3 hv => ?_
      obtain ⟨_, H3, I3, r3, rfl, rfl⟩ := hv
      exact Calls.spliced_nil (mt_find3 pins s3 σ H3 _ [.str ys, .int i] _ [v2, v3] Q I3 r1 (.cons r2 (.cons r3 .nil)) ⟨xs, ys, i, rfl, rfl, q _ [] (.int _)⟩)
  · cases e4
end
end Q
namespace Q
open PySem PySem.Spec PyProof.Rows L2
noncomputable section
abbrev k_SIZES : List Str := ["come", "go", "move", "some", "swap", "count", "look"]
abbrev v_SIZES : List T := [(.int 7), (.int 6), (.int 7), (.int 6), (.int 5), (.int 7), (.int 5)]
def jjj : De := dOf (rOp2 fIn (rVar 1) (rC (.str "abcdefghijklmnopqrstuvwxyz")))
def jhf : Ds := sSeq (sIf (bOr (bNot (rTest (rOp1 (fIsi .str) (rVar 0)))) (bNot (rTest (jcs fLe fLe (rC (.int 1)) (rOpN fLen [rVar 0]) (rC (.int 8)))))) (sRet (dOf (rC (.bl false)))) (sNil)) (sRet (vOp (fro fAll) (dCons (dComp [1] (iStrT (dOf (rVar 0))) (gSlot 1) bYes jjj) dNil)))
def jbr : FD := fRun 2 [] jhf
end
end Q
namespace Q
open PySem PySem.Spec PyProof.Rows L2
noncomputable section
def jht : Ds := sIf (bNot (rTest (rVar 0))) (jdl) (sNil)
def jbw : FD := fRun 1 [] jht
end
end Q
namespace Q
open PySem PySem.Spec PyProof.Rows L2
noncomputable section
abbrev k_NUMBERS : List Str := ["come", "go", "move", "some", "swap", "count", "look"]
abbrev v_NUMBERS : List T := [(.con [(.int 2), (.int 5), (.int 6)]), (.con [(.int 2), (.int 5)]), (.con [(.int 2), (.int 6)]), (.con [(.int 2)]), (.con [(.int 2)]), (.con [(.int 2), (.int 5)]), (.con [(.int 2)])]
def D_word_of : Ds := sSeq (sIf (rTest (rOp2 fEq (rVar 0) (rC (.str "")))) (sRet (dOf (rC (.str "-")))) (sNil)) (sRet (dOf (rOpN fStr [rVar 0])))
def jmq : FD := fRun 1 [] D_word_of
def jef : De := dOf (rOp2 fIn (rVar 1) (rC (.str "0123456789")))
def ji2 : Ds := sSeq (sIf (bOr (bNot (rTest (jcs fLe fLe (rC (.int 1)) (rOpN fLen [rVar 0]) (rC (.int 60))))) (bNot (bTest (vOp (fro fAll) (dCons (dComp [1] (iStrT (dOf (rVar 0))) (gSlot 1) bYes jef) dNil))))) (sRet (dOf (rC .non))) (sNil)) (sSeq (sIf (bAnd (rTest (rOp2 fEq (rOp2 fIx (rVar 0) (rC (.int 0))) (rC (.str "0")))) (rTest (rOp2 fGt (rOpN fLen [rVar 0]) (rC (.int 1))))) (sRet (dOf (rC .non))) (sNil)) (sRet (dOf (rOpN fIntS [rVar 0]))))
def jbx : FD := fRun 2 [] ji2
def jls : Ds := jar [2] (sAsg (dFz (dCall jbx [] [none] (dCons (dOf (rOp2 fIx (rVar 1) (rVar 2))) dNil))) (gPut 1 (pName 1) (rVar 2)))
end
end Q
namespace Q
open PySem PySem.Spec PyProof.Rows L2
noncomputable section
def jfe : De := dOf (rOp2 fLtA (rVar 1) (rVar 2))
def jjk : Ds := sRet (vOp (fro fAll) (dCons (dComp [1, 2] (iZip (dCons (dOf (rVar 0)) (dCons (dFz (jbm (rVar 0) (some (rC (.int 1))) none)) dNil))) (gTree 2 (jbl (gSlot 1) (jbl (gSlot 2) (gsNil)))) bYes jfe) dNil))
def jb6 : FD := fRun 3 [] jjk
def jlt : Ds := sSeq (sIf (bTest (vOp2 (fro fEq) (dOf (rVar 0)) (vOp fLst (dNil)))) (sRet (dOf (rC (.str ".")))) (sNil)) (sRet (vOp2 (fro fJoin) (dOf (rC (.str " "))) (noEx (dOf (rVar 0)))))
def jeq : FD := fRun 1 [] jlt
def jjl : Ds := sRet (dOf (rOpN fFmt [rOp2 fIx (rVar 0) (rC (.int 0)), rC (.str ":"), rOp2 fIx (rVar 0) (rC (.int 1))]))
def jdc : FD := fRun 1 [] jjl
def jek : Ds := jar [2] (sSet 1 (dOf (rOp2 fAddR (rOp2 fAddR (rVar 1) (rC (.str " "))) (rVar 2))))
def jh7 : Ds := sSeq (sSet 1 (dOf (rC (.str "")))) (sSeq (sFor (iSeq (dOf (rVar 0))) (gSlot 2) jek) (sRet (vOp2 (fro fIx) (vOp fLst (dCons (jbm (rVar 1) (some (rC (.int 1))) none) (dCons (dOf (rC (.str "."))) dNil))) (vOp (fro fInt) (dCons (vOp2 (fro fEq) (dOf (rVar 0)) (vOp fLst (dNil))) dNil)))))
def jb3 : FD := fRun 3 [] jh7
def jhu : Ds := sSeq (sIf (bTest (vOp2 (fro fNe) (jbm (rVar 0) none (some (rC (.int 1)))) (dOf (rC (.str "-"))))) (sSeq (sSet 1 (dFz (dCall jbx [] [none] (dCons (dOf (rVar 0)) dNil)))) (sSeq (sExpr (dCall jbw [] [none] (dCons (dOf (rOp2 jc4 (rVar 1) (rC .non))) dNil))) (sRet (dOf (rVar 1))))) (sNil)) (sSeq (sSet 1 (dFz (dCall jbx [] [none] (dCons (dFz (jbm (rVar 0) (some (rC (.int 1))) none)) dNil)))) (sSeq (sExpr (dCall jbw [] [none] (dCons (dAnd (dOf (rOp2 jc4 (rVar 1) (rC .non))) (dOf (rOp2 fGt (rVar 1) (rC (.int 0))))) dNil))) (sRet (dOf (rOp2 fSub (rC (.int 0)) (rVar 1))))))
def jdd : FD := fRun 2 [] jhu
def jk7 : Ds := sSeq (sSet 1 (dFz (vOp2 jg2 (dOf (rVar 0)) (noEx (dOf (rC (.str ":"))))))) (sSeq (sExpr (dCall jbw [] [none] (dCons (dAnd (dOf (rOp2 fEq (rOpN fLen [rVar 1]) (rC (.int 2)))) (dAnd (dCall jbr [] [none] (dCons (dOf (rOp2 fIx (rVar 1) (rC (.int 0)))) dNil)) (dOf (rOp2 fLe (rOpN fLen [rOp2 fIx (rVar 1) (rC (.int 1))]) (rC (.int 2)))))) dNil))) (sSeq (sSet 2 (dFz (dCall jbx [] [none] (dCons (dOf (rOp2 fIx (rVar 1) (rC (.int 1)))) dNil)))) (sSeq (sExpr (dCall jbw [] [none] (dCons (dOf (rOp2 jc4 (rVar 2) (rC .non))) dNil))) (sRet (vOp fTup (dCons (dOf (rOp2 fIx (rVar 1) (rC (.int 0)))) (dCons (dOf (rVar 2)) dNil)))))))
def jfa : FD := fRun 3 [] jk7
def jmr : Ds := sSeq (sSet 1 (dFz (vOp2 jg2 (jbm (rVar 0) (some (rC (.int 1))) none) (noEx (dOf (rC (.str ":"))))))) (sSeq (sExpr (dCall jbw [] [none] (dCons (dAnd (vOp2 (fro fIn) (jbm (rVar 0) none (some (rC (.int 1)))) (vOp fTup (dCons (dOf (rC (.str "+"))) (dCons (dOf (rC (.str "-"))) dNil)))) (dAnd (dOf (rOp2 fEq (rOpN fLen [rVar 1]) (rC (.int 2)))) (dAnd (dOf (rOp2 fIn (rOp2 fIx (rVar 1) (rC (.int 0))) (rC (.con [(.str "begin"), (.str "look"), (.str "now"), (.str "some")])))) (dCall jbr [] [none] (dCons (dOf (rOp2 fIx (rVar 1) (rC (.int 1)))) dNil))))) dNil))) (sRet (vOp fTup (dCons (vOp fTup (dCons (dOf (rOp2 fIx (rVar 1) (rC (.int 0)))) (dCons (dOf (rOp2 fIx (rVar 1) (rC (.int 1)))) dNil))) (dCons (dOf (rOp2 fEq (rOp2 fIx (rVar 0) (rC (.int 0))) (rC (.str "+")))) dNil)))))
def jf7 : FD := fRun 2 [] jmr
def jf8 : Ds := sSeq (sExpr (dCall jbw [] [none] (dCons (vOp2 (fro fNe) (dOf (rVar 0)) (vOp fLst (dNil))) dNil))) (sSeq (sIf (bTest (vOp2 (fro fEq) (dOf (rVar 0)) (vOp fLst (dCons (dOf (rC (.str "."))) dNil)))) (sRet (vOp fLst (dNil))) (sNil)) (sRet (dOf (rVar 0))))
def jaz : FD := fRun 1 [] jf8
def jem : De := dCall jdc [] [none] (dCons (dOf (rVar 1)) dNil)
def jd4 : De := vOp2 fCat (vOp2 (fro fIx) (vOp fLst (dCons (dOf (rC (.str "-"))) (dCons (dOf (rC (.str "+"))) dNil))) (dOf (rOpN fInt [rVar 3]))) (dCall jdc [] [none] (dCons (dOf (rVar 2)) dNil))
def jhv : Ds := sSeq (sIf (rTest (rOp2 fEq (rOp2 fIx (rVar 0) (rC (.int 0))) (rC (.str "known")))) (sRet (vOp2 fCat (dOf (rOp2 fAddR (rOp2 fAddR (rC (.str "known ")) (rOpN fStr [rOp2 fIx (rVar 0) (rC (.int 1))])) (rC (.str " ")))) (dCall jeq [] [none] (dCons (dFz (dComp [1] (iSeq (dOf (rOp2 fIx (rVar 0) (rC (.int 2))))) (gSlot 1) bYes jem)) dNil)))) (sNil)) (sRet (vOp2 fCat (dOf (rC (.str "free "))) (dCall jeq [] [none] (dCons (dFz (dComp [2, 3] (iSeq (dOf (rOp2 fIx (rVar 0) (rC (.int 1))))) (gTree 2 (jbl (gSlot 2) (jbl (gSlot 3) (gsNil)))) bYes jd4)) dNil))))
def jct : FD := fRun 4 [] jhv
def jdr : Ds := jar [3] (sSet 2 (dFz (vOp2 fCat (dOf (rOp2 fMulR (rVar 2) (rOp2 fPow (rC (.int 10)) (rC (.int 6))))) (dCall jab [0] [some 0, none] (dIno 0 (dCons (dOf (rOp2 fPow (rC (.int 10)) (rC (.int 6)))) dNil))))))
def jh8 : Ds := sSeq (sSet 1 (dFz (dCall jab [0] [some 0, none] (dIno 0 (dCons (dOf (rC (.int 4))) dNil))))) (sSeq (sSet 2 (dFz (dCall jab [0] [some 0, none] (dIno 0 (dCons (dOf (rC (.int 1000))) dNil))))) (sSeq (sFor (jat (dCons (vOp2 (fro fIx) (vOp fLst (dCons (dOf (rC (.int 0))) (dCons (dOf (rC (.int 0))) (dCons (dOf (rC (.int 3))) (dCons (dOf (rC (.int 9))) dNil))))) (dOf (rVar 1))) dNil)) (gSlot 3) jdr) (sSeq (sSet 2 (vOp2 (fro fIx) (vOp fLst (dCons (dOf (rVar 2)) (dCons (dOf (rC (.int 0))) (dCons (dOf (rVar 2)) (dCons (dOf (rOp2 fSub (rOp2 fSub (rOp2 fPow (rC (.int 10)) (rC (.int 60))) (rC (.int 1))) (rVar 2))) dNil))))) (dOf (rVar 1)))) (sRet (vOp2 (fro fMulR) (dOf (rVar 2)) (vOp2 (fro fSub) (dOf (rC (.int 1))) (vOp2 (fro fMulR) (dOf (rC (.int 2))) (dCall jab [0] [some 0, none] (dIno 0 (dCons (dOf (rC (.int 2))) dNil))))))))))
def jc5 : FD := fRun 4 [0] jh8
def jcv : De := dOf (rOp2 fAddR (rOp2 fAddR (rVar 2) (rC (.str ":"))) (rOpN fStr [rVar 3]))
def jbs : De := vOp2 fCat (vOp2 fCat (bOp fCat [rOp2 fIx (rC (.str "-+")) (rOpN fInt [rVar 5]), rOp2 fIx (rVar 4) (rC (.int 0))]) (dOf (rC (.str ":")))) (dOf (rOp2 fIx (rVar 4) (rC (.int 1))))
def jer : Ds := sSeq (sIf (rTest (rOp2 fEq (rOp2 fIx (rVar 0) (rC (.int 0))) (rC (.str "known")))) (sSeq (sFrz 1 (sSet 1 (dComp [2, 3] (iSeq (dOf (rOp2 fIx (rVar 0) (rC (.int 2))))) (gTree 2 (jbl (gSlot 2) (jbl (gSlot 3) (gsNil)))) bYes jcv))) (sRet (vOp2 fCat (dOf (rOp2 fAddR (rOp2 fAddR (rC (.str "known ")) (rOpN fStr [rOp2 fIx (rVar 0) (rC (.int 1))])) (rC (.str " ")))) (dCall jb3 [] [none] (dCons (dOf (rVar 1)) dNil))))) (sNil)) (sRet (vOp2 fCat (dOf (rC (.str "free "))) (dCall jb3 [] [none] (dCons (dFz (dComp [4, 5] (iSeq (dOf (rOp2 fIx (rVar 0) (rC (.int 1))))) (gTree 2 (jbl (gSlot 4) (jbl (gSlot 5) (gsNil)))) bYes jbs)) dNil))))
def jag : FD := fRun 6 [] jer
def jff : De := dCall jf7 [] [none] (dCons (dOf (rVar 5)) dNil)
def jen : De := dOf (rVar 6)
def jfg : De := dCall jfa [] [none] (dCons (dOf (rVar 5)) dNil)
def jhw : Ds := sSeq (sExpr (dCall jbw [] [none] (dCons (dOf (rOp1 (fIsi .str) (rVar 0))) dNil))) (sSeq (sSet 1 (dFz (vOp2 jg2 (dOf (rVar 0)) (noEx (dOf (rC (.str " "))))))) (sSeq (sIf (rTest (rOp2 fEq (rOp2 fIx (rVar 1) (rC (.int 0))) (rC (.str "free")))) (sSeq (sSet 2 (dComp [5] (iSeq (dFz (dCall jaz [] [none] (dCons (dFz (jbm (rVar 1) (some (rC (.int 1))) none)) dNil)))) (gSlot 5) bYes jff)) (sSeq (sExpr (dCall jbw [] [none] (dCons (vOp2 (fro fEq) (dLend (vOp fLSM (dCons (dComp [6, 7] (iSeq (dVar 2)) (gTree 2 (jbl (gSlot 6) (jbl (gSlot 7) (gsNil)))) bYes jen) dNil))) (dOf (rOpN fLen [rVar 2]))) dNil))) (sRet (vOp fTup (dCons (dOf (rC (.str "free"))) (dCons (dMove 2) dNil)))))) (sNil)) (sSeq (sExpr (dCall jbw [] [none] (dCons (dAnd (dOf (rOp2 fEq (rOp2 fIx (rVar 1) (rC (.int 0))) (rC (.str "known")))) (dOf (rOp2 fGt (rOpN fLen [rVar 1]) (rC (.int 2))))) dNil))) (sSeq (sSet 3 (dFz (dCall jdd [] [none] (dCons (dOf (rOp2 fIx (rVar 1) (rC (.int 1)))) dNil)))) (sSeq (sSet 4 (dComp [5] (iSeq (dFz (dCall jaz [] [none] (dCons (dFz (jbm (rVar 1) (some (rC (.int 2))) none)) dNil)))) (gSlot 5) bYes jfg)) (sSeq (sExpr (dCall jbw [] [none] (dCons (dLend (dCall jb6 [] [none] (dCons (dVar 4) dNil))) dNil))) (sRet (vOp fTup (dCons (dOf (rC (.str "known"))) (dCons (dOf (rVar 3)) (dCons (dMove 4) dNil)))))))))))
def jcu : FD := fRun 8 [] jhw
def jcw : De := vOp fTup (dCons (dIx0 2 (dCall jab [0] [some 0, none] (dIno 0 (dCons (dOf (rOpN fLen [rVar 2])) dNil)))) (dCons (dCall jab [0] [some 0, none] (dIno 0 (dCons (dOf (rVar 5)) dNil))) dNil))
def jbt : De := dOf (rOp2 fIx (rVar 10) (rC (.int 0)))
def jav : Ds := jar [8, 9] (sSeq (sSet 9 (vOp fTup (dCons (dIx0 4 (dCall jab [0] [some 0, none] (dIno 0 (dCons (dOf (rC (.int 4))) dNil)))) (dCons (dIx0 2 (dCall jab [0] [some 0, none] (dIno 0 (dCons (dOf (rOpN fLen [rVar 2])) dNil)))) dNil)))) (sIf (bLend (bTest (vOp2 (fro jj2) (dOf (rVar 9)) (dComp [10] (iSeq (dVar 7)) (gSlot 10) bYes jbt)))) (sExpr (dMeth false 7 jde (dCons (vOp fTup (dCons (dOf (rVar 9)) (dCons (vOp2 (fro fEq) (dCall jab [0] [some 0, none] (dIno 0 (dCons (dOf (rC (.int 2))) dNil))) (dOf (rC (.int 0)))) dNil))) dNil))) (sNil)))
def jes : Ds := sSeq (sSet 1 (dFz (dCall jab [0] [some 0, none] (dIno 0 (dCons (dOf (rC (.int 2))) dNil))))) (sSeq (sSet 2 (dFz (dCall jbn [0] [some 0, none] (dIno 0 (dCons (dFz (vOp2 fCat (dOf (rC (.int 1))) (dCall jab [0] [some 0, none] (dIno 0 (dCons (dOf (rC (.int 6))) dNil))))) dNil))))) (sSeq (sSet 3 (vOp2 (fro fIx) (vOp fLst (dCons (dOf (rC (.int 0))) (dCons (dOf (rC (.int 1))) (dCons (dCall jab [0] [some 0, none] (dIno 0 (dCons (dOf (rC (.int 9))) dNil))) (dCons (dOf (rC (.int 8))) dNil))))) (dCall jab [0] [some 0, none] (dIno 0 (dCons (dOf (rC (.int 4))) dNil))))) (sSeq (sSet 4 (dFz (vOp fLst (dCons (dOf (rC (.str "begin"))) (dCons (dOf (rC (.str "look"))) (dCons (dOf (rC (.str "now"))) (dCons (dOf (rC (.str "some"))) dNil))))))) (sSeq (sIf (rTest (rOp2 fEq (rVar 1) (rC (.int 0)))) (sSeq (sSet 5 (vOp2 (fro fIx) (vOp fLst (dCons (dOf (rC (.int 3))) (dCons (dOf (rC (.int 37))) (dCons (dOf (rC (.int 100))) dNil)))) (dCall jab [0] [some 0, none] (dIno 0 (dCons (dOf (rC (.int 3))) dNil))))) (sSeq (sFrz 6 (sSet 6 (dComp [8] (jat (dCons (dOf (rVar 3)) dNil)) (gSlot 8) bYes jcw))) (sRet (vOp fTup (dCons (dOf (rC (.str "known"))) (dCons (dCall jc5 [0] [some 0] (dIno 0 dNil)) (dCons (bOp fSSM [rVar 6]) dNil))))))) (sNil)) (sSeq (sSet 7 (vOp fLst (dNil))) (sSeq (sFor (jat (dCons (dOf (rVar 3)) dNil)) (gSlot 8) jav) (sRet (vOp fTup (dCons (dOf (rC (.str "free"))) (dCons (dMove 7) dNil))))))))))
def jas : FD := fRun 11 [0] jes
def jfh (f : FD) : De := dCall f [] [none] (dCons (dOf (rVar 4)) dNil)
def jgr (f : FD) : Ds := sSeq (sAsg (dOf (rVar 0)) (gTree 3 (jbl (gSlot 1) (jbl (gSlot 2) (jbl (gSlot 3) (gsNil)))))) (sRet (vOp2 fCat (vOp2 fCat (vOp2 fCat (vOp2 fCat (dOf (rOp2 fAddR (rVar 1) (rC (.str "[")))) (vOp2 (fro fJoin) (dOf (rC (.str " "))) (noEx (dOf (rVar 2))))) (dOf (rC (.str "](")))) (vOp2 (fro fJoin) (dOf (rC (.str " "))) (noEx (dComp [4] (iSeq (dOf (rVar 3))) (gSlot 4) bYes (jfh f))))) (dOf (rC (.str ")")))))
def jc6 : Nat → FD
  | 0 => fun _ => .bad
  | k + 1 => fRun 5 [] (jgr (jc6 k))
def jfr : FD := jc6 30
def jc1 (f : FD) : Ds := jar [5] (sSet 4 (dOf (rOp2 fAddR (rOp2 fAddR (rVar 4) (rOp2 fMulT (rC (.str " ")) (rOpN fInt [rOp2 fGt (rVar 5) (rC (.int 0))]))) (rOp2 fIx (rVar 2) (rVar 5)))))
def jc2 (f : FD) : Ds := jar [5] (sSet 4 (dFz (vOp2 fCat (dOf (rOp2 fAddR (rVar 4) (rOp2 fMulT (rC (.str " ")) (rOpN fInt [rOp2 fGt (rVar 5) (rC (.int 0))])))) (dCall f [] [none] (dCons (dOf (rOp2 fIx (rVar 3) (rVar 5))) dNil)))))
def jea (f : FD) : Ds := sSeq (sAsg (dOf (rVar 0)) (gTree 3 (jbl (gSlot 1) (jbl (gSlot 2) (jbl (gSlot 3) (gsNil)))))) (sSeq (sSet 4 (dOf (rOp2 fAddR (rVar 1) (rC (.str "["))))) (sSeq (sFor (jat (dCons (dOf (rOpN fLen [rVar 2])) dNil)) (gSlot 5) (jc1 f)) (sSeq (sSet 4 (dOf (rOp2 fAddR (rVar 4) (rC (.str "]("))))) (sSeq (sFor (jat (dCons (dOf (rOpN fLen [rVar 3])) dNil)) (gSlot 5) (jc2 f)) (sRet (dOf (rOp2 fAddR (rVar 4) (rC (.str ")")))))))))
def jbg : Nat → FD
  | 0 => fun _ => .bad
  | k + 1 => fRun 6 [] (jea (jbg k))
def jdg : FD := jbg 30
def jgs (f : FD) : De := dCall jbr [] [none] (dCons (dOf (rVar 10)) dNil)
def jfs (f : FD) : Ds := jar [8, 9] (sSeq (sAsg (dFz (dCall f [] [none, none, none] (dCons (dOf (rVar 0)) (dCons (dOf (rVar 1)) (dCons (dOf (rOp2 fAddR (rVar 2) (rC (.int 1)))) dNil))))) (gTree 2 (jbl (gSlot 9) (jbl (gSlot 1) (gsNil))))) (sSeq (sExpr (dMeth false 7 jde (dCons (dOf (rVar 9)) dNil))) (sSeq (sExpr (dCall jbw [] [none] (dCons (vOp2 (fro fEq) (jbm (rVar 0) (some (rVar 1)) (some (rOp2 fAddR (rVar 1) (rC (.int 1))))) (vOp2 (fro fIx) (vOp fLst (dCons (dOf (rC (.str " "))) (dCons (dOf (rC (.str ")"))) dNil))) (dOf (rOpN fInt [rOp2 fEq (rVar 8) (rOpN fLen [rVar 6])])))) dNil))) (sSet 1 (dOf (rOp2 fAddR (rVar 1) (rC (.int 1))))))))
def jgt (f : FD) : Ds := sSeq (sExpr (dCall jbw [] [none] (dCons (dOf (rOp2 fLe (rVar 2) (rC (.int 3)))) dNil))) (sSeq (sSet 3 (dOf (rOp3 fFind (rVar 0) (rC (.str "[")) (rVar 1)))) (sSeq (sSet 4 (dOf (rOp3 fFind (rVar 0) (rC (.str "](")) (rVar 1)))) (sSeq (sExpr (dCall jbw [] [none] (dCons (dAnd (dOf (jcs fLt fLt (rVar 1) (rVar 3) (rVar 4))) (dCall jbr [] [none] (dCons (dFz (jbm (rVar 0) (some (rVar 1)) (some (rVar 3)))) dNil))) dNil))) (sSeq (sSet 5 (dFz (jbm (rVar 0) (some (rVar 1)) (some (rVar 3))))) (sSeq (sSet 6 (dFz (vOp2 jg2 (jbm (rVar 0) (some (rOp2 fAddR (rVar 3) (rC (.int 1)))) (some (rVar 4))) (noEx (dOf (rC (.str " "))))))) (sSeq (sExpr (dCall jbw [] [none] (dCons (dAnd (vOp (fro fAll) (dCons (dComp [10] (iSeq (dOf (rVar 6))) (gSlot 10) bYes (jgs f)) dNil)) (dCall jb6 [] [none] (dCons (dOf (rVar 6)) dNil))) dNil))) (sSeq (sSet 1 (dOf (rOp2 fAddR (rVar 4) (rC (.int 2))))) (sSeq (sIf (bTest (vOp2 (fro fEq) (jbm (rVar 0) (some (rVar 1)) (some (rOp2 fAddR (rVar 1) (rC (.int 1))))) (dOf (rC (.str ")"))))) (sRet (vOp fTup (dCons (vOp fTup (dCons (dOf (rVar 5)) (dCons (bOp fTuple [rVar 6]) (dCons (vOp fTup (dNil)) dNil)))) (dCons (dOf (rOp2 fAddR (rVar 1) (rC (.int 1)))) dNil)))) (sNil)) (sSeq (sSet 7 (vOp fLst (dNil))) (sSeq (sFor (jbo (dCons (dOf (rC (.int 1))) (dCons (dOf (rOp2 fAddR (rOpN fLen [rVar 6]) (rC (.int 1)))) dNil))) (gSlot 8) (jfs f)) (sRet (vOp fTup (dCons (vOp fTup (dCons (dOf (rVar 5)) (dCons (bOp fTuple [rVar 6]) (dCons (bOp fTuple [rVar 7]) dNil)))) (dCons (dOf (rVar 1)) dNil))))))))))))))
def jc3 : Nat → FD
  | 0 => fun _ => .bad
  | k + 1 => fRun 11 [] (jgt (jc3 k))
def jhg : FD := jc3 30
def jjm : Ds := sSeq (sExpr (dCall jbw [] [none] (dCons (dOf (rOp1 (fIsi .str) (rVar 0))) dNil))) (sSeq (sAsg (dFz (dCall jhg [] [none, none, none] (dCons (dOf (rVar 0)) (dCons (dOf (rC (.int 0))) (dCons (dOf (rC (.int 1))) dNil))))) (gTree 2 (jbl (gSlot 1) (jbl (gSlot 2) (gsNil))))) (sSeq (sExpr (dCall jbw [] [none] (dCons (dOf (rOp2 fEq (rVar 2) (rOpN fLen [rVar 0]))) dNil))) (sRet (dOf (rVar 1)))))
def jeg : FD := fRun 3 [] jjm
def jdh (f : FD) : De := dCall f [0] [some 0, none] (dIno 0 (dCons (dOf (rOp2 fSub (rVar 1) (rC (.int 1)))) dNil))
def jcx (f : FD) : Ds := sSeq (sSet 2 (dFz (dCall jab [0] [some 0, none] (dIno 0 (dCons (dOf (rC (.int 3))) dNil))))) (sSeq (sSet 3 (vOp2 (fro fIx) (dCall jbn [0] [some 0, none] (dIno 0 (dCons (dOf (rC (.int 2))) dNil))) (dCall jab [0] [some 0, none] (dIno 0 (dCons (dOf (rC (.int 2))) dNil))))) (sSeq (sSet 4 (dFz (vOp fTuple (dCons (vOp jk2 (dCons (dCall jbn [0] [some 0, none] (dIno 0 (dCons (dFz (vOp2 fCat (dOf (rC (.int 1))) (dCall jab [0] [some 0, none] (dIno 0 (dCons (dOf (rC (.int 3))) dNil))))) dNil))) dNil)) dNil)))) (sSeq (sIf (bOr (rTest (rOp2 fEq (rVar 1) (rC (.int 1)))) (rTest (rOp2 fEq (rVar 2) (rC (.int 0))))) (sRet (vOp fTup (dCons (dOf (rVar 3)) (dCons (dOf (rVar 4)) (dCons (vOp fTup (dNil)) dNil))))) (sNil)) (sRet (vOp fTup (dCons (dOf (rVar 3)) (dCons (dOf (rVar 4)) (dCons (vOp fTuple (dCons (dComp [5] (iSeq (dOf (rVar 4))) (gSlot 5) bYes (jdh f)) dNil)) dNil))))))))
def jay : Nat → FD
  | 0 => fun _ => .bad
  | k + 1 => fRun 6 [0] (jcx (jay k))
def jeb : FD := jay 30
def jgu : Ds := jar [6, 7, 8] (sSeq (sSet 7 (dFz (dCall jct [] [none] (dCons (dOf (rVar 3)) dNil)))) (sSeq (sSet 8 (dCall jcu [] [none] (dCons (dOf (rVar 5)) dNil))) (sSeq (sIf (bOr (bNot (rTest (rOp1 (fIsi .str) (rVar 7)))) (bOr (rTest (rOp2 fNe (rVar 7) (rVar 5))) (bOr (bNot (rTest (rOp1 (fIsi .tuple) (rVar 8)))) (rTest (rOp2 fNe (rOpN fRepr [rVar 8]) (rVar 4)))))) (sRet (dOf (rC (.bl false)))) (sNil)) (sExpr (jcy false 8 jde (pIx 8 (pName 8) (rOp1 fNeg (rC (.int 1)))) [rC .non])))))
def je2 : Ds := jar [2, 3, 4, 5, 6, 7, 8] (sSeq (sSet 3 (dFz (dCall jas [0] [some 1] (dIno 1 dNil)))) (sSeq (sSet 4 (dOf (rOpN fRepr [rVar 3]))) (sSeq (sSet 5 (dFz (dCall jag [] [none] (dCons (dOf (rVar 3)) dNil)))) (sSeq (sFor (jat (dCons (dOf (rC (.int 2))) dNil)) (gSlot 6) jgu) (sIf (rTest (rOp2 fNe (rOpN fRepr [rVar 3]) (rVar 4))) (sRet (dOf (rC (.bl false)))) (sNil))))))
def jgv : Ds := jar [6, 7] (sSeq (sSet 7 (dFz (dCall jfr [] [none] (dCons (dOf (rVar 9)) dNil)))) (sIf (bOr (bNot (rTest (rOp1 (fIsi .str) (rVar 7)))) (bOr (rTest (rOp2 fNe (rVar 7) (rVar 5))) (bTest (vOp2 (fro fNe) (vOp (fro fRepr) (dCons (dCall jeg [] [none] (dCons (dOf (rVar 5)) dNil)) dNil)) (dOf (rOpN fRepr [rVar 9])))))) (sRet (dOf (rC (.bl false)))) (sNil)))
def je3 : Ds := jar [2, 5, 6, 7, 9] (sSeq (sSet 9 (dFz (dCall jeb [0] [some 1, none] (dIno 1 (dCons (dOf (rC (.int 3))) dNil))))) (sSeq (sSet 5 (dFz (dCall jdg [] [none] (dCons (dOf (rVar 9)) dNil)))) (sFor (jat (dCons (dOf (rC (.int 2))) dNil)) (gSlot 6) jgv)))
def jms : Ds := sSeq (sSet 1 (dCall jel [] [none] (dCons (dOf (rVar 0)) dNil))) (sSeq (sFor (jat (dCons (dOf (rC (.int 8))) dNil)) (gSlot 2) je2) (sSeq (sFor (jat (dCons (dOf (rC (.int 4))) dNil)) (gSlot 2) je3) (sRet (dOf (rC (.bl true))))))
def jhh : FD := fRun 10 [] jms
end
end Q
set_option pp.maxSteps 300
namespace Q
open PySem PySem.Spec PyProof.Rows L2
variable [tbI : Tbl]
include tbI
def topS (i : Nat) : Stmt := PySem.Challenge.pw_shelfcounts_k76_papers_written_and_read.main.body.getD i (.Pass ⟨0, 0, 0, 0⟩)
theorem takes00 {X : Cx} : Takes X WF := takes0
abbrev jik : Stmt := topS 6
abbrev jkf : List Str := ["thing", "sign"]
abbrev jfi : List Str := ["thing"]
theorem sc_is_name : FnScope jkf jfi (defScope jik) := ⟨rfl, rfl, rfl, by decide +kernel, rfl, by decide +kernel, by decide +kernel⟩
theorem jod {P : Program} {w : World} {K : PySem.W.Frag} {mg : Str → Option Value} {base : Heap} {a : Addr} {fd : FuncData} (Fu : Fun K "is_name" "is_name" jik a fd) (z_all : mg "all" = none) (z_isinstance : mg "isinstance" = none) (z_len : mg "len" = none) (z_str : mg "str" = none) (g_LONGEST_names : Glo K mg "LONGEST_names" (.int 8)) (g_SMALL : Glo K mg "SMALL" (.str "abcdefghijklmnopqrstuvwxyz")) : FnQ P w K mg base 1 a fd jfi [] jbr :=
  fn_ok (N := jkf) Fu sc_is_name (by decide) (by decide) fun X vs W cdv A outer s H E hX hr tk => by
    subst hX
    exact (jac (ls_if (jip (lw_or (jkt (jni (jm6 .str (jaa 0) jk1 z_isinstance z_str))) (jnk (jkt (jnj op_le op_le o_cmp o_cmp (jad) (jbv jaw o_len (jbh (jaa 0) jc7) jgf z_len) (jim g_LONGEST_names)))))) (jbj (jc0 (l_of (re_bl)))) (jfl))
      (jbj (jc0 (jjh (cr_all rfl) (ROp.b o_all).v (lCons (l_lc (own := [("sign", 1)]) rfl sc_is_name.nd (li_str (l_of (jaa 0))) (blkOk_by (N := jkf) (sc := defScope jik) (own := [("sign", 1)]) (by decide +kernel)) (jg1 rfl) (fun _ _ _ _ _ => jdo 1 (by decide) sc_is_name.nd rfl (by first | exact .inl rfl | exact .inr rfl) rfl (by first | exact .inl rfl | exact .inr rfl)) (fun _ _ _ _ _ => jev) (fun _ _ _ _ _ => l_of (jf6 (jj6 (u66 hr)) o_in (jaa 1) (jim g_SMALL)))) lNil) bb_all z_all))))
abbrev jhi : Stmt := topS 10
abbrev ji3 : List Str := ["word", "sign"]
abbrev jft : List Str := ["word"]
theorem sc_whole_in : FnScope ji3 jft (defScope jhi) := ⟨rfl, rfl, rfl, by decide +kernel, rfl, by decide +kernel, by decide +kernel⟩
theorem jm7 {P : Program} {w : World} {K : PySem.W.Frag} {mg : Str → Option Value} {base : Heap} {a : Addr} {fd : FuncData} (Fu : Fun K "whole_in" "whole_in" jhi a fd) (z_all : mg "all" = none) (z_int : mg "int" = none) (z_len : mg "len" = none) (g_FIGURES : Glo K mg "FIGURES" (.str "0123456789")) (g_LONGEST_reader : Glo K mg "LONGEST_reader" (.int 60)) : FnQ P w K mg base 1 a fd jft [] jbx :=
  fn_ok (N := ji3) Fu sc_whole_in (by decide) (by decide) fun X vs W cdv A outer s H E hX hr tk => by
    subst hX
    exact (jac (ls_if (jip (lw_or (jkt (jnj op_le op_le o_cmp o_cmp (jad) (jbv jaw o_len (jbh (jaa 0) jc7) jgf z_len) (jim g_LONGEST_reader))) (jnk (jkt (lt_val (jjh (cr_all rfl) (ROp.b o_all).v (lCons (l_lc (own := [("sign", 1)]) rfl sc_whole_in.nd (li_str (l_of (jaa 0))) (blkOk_by (N := ji3) (sc := defScope jhi) (own := [("sign", 1)]) (by decide +kernel)) (jg1 rfl) (fun _ _ _ _ _ => jdo 1 (by decide) sc_whole_in.nd rfl (by first | exact .inl rfl | exact .inr rfl) rfl (by first | exact .inl rfl | exact .inr rfl)) (fun _ _ _ _ _ => jev) (fun _ _ _ _ _ => l_of (jf6 (jj6 (u66 hr)) o_in (jaa 1) (jim g_FIGURES)))) lNil) bb_all z_all)))))) (jbj (jc0 (l_of (jm2)))) (jfl))
      (jac (ls_if (jip (lw_and (jgg (jfo hr.units) o_eq (re_ix (jb2 (u1 hr)) o_ix (jaa 0) (jad)) (jax)) (lw_and1 (jgg op_gt o_cmp (jbv jaw o_len (jbh (jaa 0) jc7) jgf z_len) (jad))))) (jbj (jc0 (l_of (jm2)))) (jfl))
      (jbj (jc0 (l_of (jex call_int_str o_intS (jbh (jaa 0) jc7) jlp z_int))))))
abbrev s_need : Stmt := topS 15
abbrev N_need : List Str := ["truth"]
abbrev jif : List Str := ["truth"]
theorem sc_need : FnScope N_need jif (defScope s_need) := ⟨rfl, rfl, rfl, by decide +kernel, rfl, by decide +kernel, by decide +kernel⟩
theorem ok_need {P : Program} {w : World} {K : PySem.W.Frag} {mg : Str → Option Value} {base : Heap} {a : Addr} {fd : FuncData} (Fu : Fun K "need" "need" s_need a fd) : FnQ P w K mg base 1 a fd jif [] jbw :=
  fn_ok (N := N_need) Fu sc_need (by decide) (by decide) fun X vs W cdv A outer s H E hX hr tk => by
    subst hX
    exact (jbj (ls_if (jkt (jni (jaa 0))) (jbj (ls_never)) (jfl)))
abbrev jgw : Stmt := topS 20
abbrev jhx : List Str := ["some", "one", "other"]
abbrev jeh : List Str := ["some"]
theorem sc_is_rising : FnScope jhx jeh (defScope jgw) := ⟨rfl, rfl, rfl, by decide +kernel, rfl, by decide +kernel, by decide +kernel⟩
theorem jlu {P : Program} {w : World} {K : PySem.W.Frag} {mg : Str → Option Value} {base : Heap} {a : Addr} {fd : FuncData} (Fu : Fun K "is_rising" "is_rising" jgw a fd) (z_all : mg "all" = none) (z_zip : mg "zip" = none) : FnQ P w K mg base 1 a fd jeh [] jb6 :=
  fn_ok (N := jhx) Fu sc_is_rising (by decide) (by decide) fun X vs W cdv A outer s H E hX hr tk => by
    subst hX
    exact (jbj (jc0 (jjh (cr_all rfl) (ROp.b o_all).v (lCons (l_lc (own := [("one", 1), ("other", 2)]) rfl sc_is_rising.nd (li_zip (lCons (l_of (jaa 0)) (lCons (l_fz (jew (jaa 0) (jdq (jad)) jgi)) lNil)) z_zip) (blkOk_by (N := jhx) (sc := defScope jgw) (own := [("one", 1), ("other", 2)]) (by decide +kernel)) (jg1 rfl) (fun _ _ _ _ _ => jnm rfl (jfn (jdo 1 (by decide) sc_is_rising.nd rfl (by first | exact .inl rfl | exact .inr rfl) rfl (by first | exact .inl rfl | exact .inr rfl)) (jfn (jdo 2 (by decide) sc_is_rising.nd rfl (by first | exact .inl rfl | exact .inr rfl) rfl (by first | exact .inl rfl | exact .inr rfl)) (jku)))) (fun _ _ _ _ _ => jev) (fun _ _ _ _ _ => l_of (jf6 (op_ltA hr.units) o_lt (jaa 1) (jaa 2)))) lNil) bb_all z_all)))
abbrev jlv : Stmt := topS 25
abbrev joe : List Str := ["words"]
abbrev ji4 : List Str := ["words"]
theorem sc_listed : FnScope joe ji4 (defScope jlv) := ⟨rfl, rfl, rfl, by decide +kernel, rfl, by decide +kernel, by decide +kernel⟩
theorem ok_listed {P : Program} {w : World} {K : PySem.W.Frag} {mg : Str → Option Value} {base : Heap} {a : Addr} {fd : FuncData} (Fu : Fun K "listed" "listed" jlv a fd) : FnQ P w K mg base 1 a fd ji4 [] jeq :=
  fn_ok (N := joe) Fu sc_listed (by decide) (by decide) fun X vs W cdv A outer s H E hX hr tk => by
    subst hX
    exact (jac (ls_if (jll (jfo hr.units) (ROp.b o_eq).v (l_of (jaa 0)) (l_lst (lNil))) (jbj (jc0 (l_of (jax)))) (jfl))
      (jbj (jc0 (l_m1 PySem.F.slot_str_join PySem.F.type_str_join mt_join (ROp.b o_join).v (jmk jij) (l_of (jax)) (l_of (jaa 0))))))
abbrev jhy : Stmt := topS 26
abbrev jjn : List Str := ["pair"]
abbrev jfu : List Str := ["pair"]
theorem jlw : FnScope jjn jfu (defScope jhy) := ⟨rfl, rfl, rfl, by decide +kernel, rfl, by decide +kernel, by decide +kernel⟩
theorem jlx {P : Program} {w : World} {K : PySem.W.Frag} {mg : Str → Option Value} {base : Heap} {a : Addr} {fd : FuncData} (Fu : Fun K "pair_text" "pair_text" jhy a fd) : FnQ P w K mg base 1 a fd jfu [] jdc :=
  fn_ok (N := jjn) Fu jlw (by decide) (by decide) fun X vs W cdv A outer s H E hX hr tk => by
    subst hX
    exact (jbj (jc0 (l_of (re_fmt (.fmt (re_ix (jb2 (u1 hr)) o_ix (jaa 0) (jad)) (.txt (jax) (.fmt (re_ix (jb2 (u1 hr)) o_ix (jaa 0) (jad)) (.nil))))))))
abbrev ji5 : Stmt := topS 30
abbrev jk8 : List Str := ["_law_script"]
abbrev jgk : List Str := ["_law_script"]
theorem jm8 : FnScope jk8 jgk (defScope ji5) := ⟨rfl, rfl, rfl, by decide +kernel, rfl, by decide +kernel, by decide +kernel⟩
theorem jm9 {P : Program} {w : World} {K : PySem.W.Frag} {mg : Str → Option Value} {base : Heap} {a : Addr} {fd : FuncData} (Fu : Fun K "_law_pen" "_law_pen" ji5 a fd) (z_list : mg "list" = none) : FnQ P w K mg base 1 a fd jgk [] jel :=
  fn_ok (N := jk8) Fu jm8 (by decide) (by decide) fun X vs W cdv A outer s H E hX hr tk => by
    subst hX
    exact (jbj (jc0 (l_disp (jnr (key := (.inr "cells")) pe_str (l_fz (jjy call_list_of o_list.v (lCons (jew (jaa 0) jgi (jdq (jad))) lNil) bb_list z_list)) (jnr (key := (.inr "at")) pe_str (l_of (jad)) (jnr (key := (.inr "left")) pe_str (l_of (jad)) (lp_nil)))))))
abbrev jhz : Stmt := topS 31
abbrev jjo : List Str := ["_law_pen_here", "_law_many", "_law_found", "_law_at", "_law_cells", "_law_cell", "_law_one", "_law_two"]
abbrev jdi : List Str := ["_law_pen_here", "_law_many"]
theorem sc__law_take : FnScope jjo jdi (defScope jhz) := ⟨rfl, rfl, rfl, by decide +kernel, rfl, by decide +kernel, by decide +kernel⟩
theorem jly {P : Program} {w : World} {K : PySem.W.Frag} {mg : Str → Option Value} {base : Heap} {a : Addr} {fd : FuncData} (Fu : Fun K "_law_take" "_law_take" jhz a fd) (z_abs : mg "abs" = none) (z_len : mg "len" = none) : FnQ P w K mg base 1 a fd jdi [0] jab :=
  fn_ok (N := jjo) Fu sc__law_take (by decide) (by decide) fun X vs W cdv A outer s H E hX hr tk => by
    subst hX
    exact (jac (ls_if (jgg op_gt o_cmp (re_ix (jb2 (u1 hr)) o_ix (jaa 0) (jax)) (jad)) (jac (jbf (i := 2) sc__law_take.nd (l_of (jap op_mod o_mod (re_ix (jb2 (u1 hr)) o_ix (jaa 0) (jax)) (jaa 1))))
      (jac (jlm (l_of (jap op_fdiv o_div (re_ix (jb2 (u1 hr)) o_ix (jaa 0) (jax)) (jaa 1))) (lg_sub (u1 hr) (W := W) (jk0 0) (jax)))
      (jbj (jc0 (l_of (jaa 2)))))) (jfl))
      (jac (jbf (i := 3) sc__law_take.nd (l_of (re_ix (jb2 (u1 hr)) o_ix (jaa 0) (jax))))
      (jac (jlm (l_of (jap op_addR jdf (jaa 3) (jad))) (lg_sub (u1 hr) (W := W) (jk0 0) (jax)))
      (jac (jbf (i := 4) sc__law_take.nd (l_of (re_ix (jb2 (u1 hr)) o_ix (jaa 0) (jax))))
      (jac (jbf (i := 5) sc__law_take.nd (l_of (jap op_addR jdf (jap op_addR jdf (jap op_mul jie (jap op_mul jie (jad) (jaa 3)) (jaa 3)) (jap op_mul jie (jad) (jaa 3))) (jad))))
      (jac (ls_if (jll (jkv hr.units) (ROp.b o_ne).v (l_of (jaa 4)) (l_lst (lNil))) (jbj (jbf (i := 5) sc__law_take.nd (l_of (re_ix (jb2 (u1 hr)) o_ix (jaa 4) (jap op_mod o_mod (jaa 3) (jbv jaw o_len (jbh (jaa 4) jc7) jgf z_len)))))) (jfl))
      (jac (ls_if (jip (lw_and (jgg op_lt o_cmp (jaa 3) (jbv jaw o_len (jbh (jaa 4) jc7) jgf z_len)) (lw_and1 (jgg op_ge o_cmp (jbv call_abs o_abs (jbh (jaa 5) jc7) bb_abs z_abs) (jap op_pow o_pow (jad) (jad)))))) (jac (jlm (l_of (jap op_fdiv o_div (jbv call_abs o_abs (jbh (jaa 5) jc7) bb_abs z_abs) (jaa 1))) (lg_sub (u1 hr) (W := W) (jk0 0) (jax)))
      (jbj (jc0 (l_of (jap op_mod o_mod (jbv call_abs o_abs (jbh (jaa 5) jc7) bb_abs z_abs) (jaa 1)))))) (jfl))
      (jac (jbf (i := 6) sc__law_take.nd (l_of (jap op_mod o_mod (jap op_pow o_pow (jap op_addR jdf (jap op_addR jdf (jap op_mod o_mod (jaa 5) (jad)) (jap op_mul jie (jad) (jaa 3))) (jad)) (jad)) (jad))))
      (jac (jbf (i := 7) sc__law_take.nd (l_of (jap op_mod o_mod (jap op_pow o_pow (jap op_addR jdf (jap op_addR jdf (jaa 6) (jap op_mul jie (jap op_mul jie (jad) (jaa 3)) (jaa 3))) (jad)) (jad)) (jad))))
      (jbj (jc0 (l_of (jap op_mod o_mod (jap op_fdiv o_div (jap op_mod o_mod (jap op_mul jie (jaa 7) (jap op_addR jdf (jap op_mod o_mod (jaa 6) (jad)) (jad))) (jad)) (jad)) (jaa 1))))))))))))))
abbrev jgl : Stmt := topS 35
abbrev jh9 : List Str := ["_law_words", "_law_found", "_law_word"]
abbrev jeo : List Str := ["_law_words"]
theorem sc__law_listed : FnScope jh9 jeo (defScope jgl) := ⟨rfl, rfl, rfl, by decide +kernel, rfl, by decide +kernel, by decide +kernel⟩
theorem jkg {P : Program} {w : World} {K : PySem.W.Frag} {mg : Str → Option Value} {base : Heap} {a : Addr} {fd : FuncData} (Fu : Fun K "_law_listed" "_law_listed" jgl a fd) (z_int : mg "int" = none) : FnQ P w K mg base 1 a fd jeo [] jb3 :=
  fn_ok (N := jh9) Fu sc__law_listed (by decide) (by decide) fun X vs W cdv A outer s H E hX hr tk => by
    subst hX
    exact (jac (jbf (i := 1) sc__law_listed.nd (l_of (jax)))
      (jac (jiq (passes_of rfl) rfl (jid (l_of (jaa 0))) (jdn 2 sc__law_listed.nd)
      (jd7 [2] (jbj (jbf (i := 1) sc__law_listed.nd (l_of (jap op_addR jdf (jap op_addR jdf (jaa 1) (jax)) (jaa 2)))))))
      (jbj (jc0 (l_ix (jb2 (u1 hr)) (ROp.b o_ix).v (l_lst (lCons (jew (jaa 1) (jdq (jad)) jgi) (lCons (l_of (jax)) lNil))) (jjy call_int1 (ROp.b o_int).v (lCons (l_cmp (jfo hr.units) (ROp.b o_eq).v (l_of (jaa 0)) (l_lst (lNil))) lNil) jlp z_int))))))
abbrev jh0 : Stmt := topS 16
abbrev jjp : List Str := ["word", "found"]
abbrev jfv : List Str := ["word"]
theorem sc_signed_in : FnScope jjp jfv (defScope jh0) := ⟨rfl, rfl, rfl, by decide +kernel, rfl, by decide +kernel, by decide +kernel⟩
theorem jlz {P : Program} {w : World} {K : PySem.W.Frag} {mg : Str → Option Value} {base : Heap} {a : Addr} {fd : FuncData} (Fu : Fun K "signed_in" "signed_in" jh0 a fd) (G_need : Cal P w K mg base 1 "need" jif [] jbw) (G_whole_in : Cal P w K mg base 1 "whole_in" jft [] jbx) : FnQ P w K mg base 2 a fd jfv [] jdd :=
  fn_ok (N := jjp) Fu sc_signed_in (by decide) (by decide) fun X vs W cdv A outer s H E hX hr tk => by
    subst hX
    exact (jac (ls_if (jll (jkv hr.units) (ROp.b o_ne).v (jew (jaa 0) jgi (jdq (jad))) (l_of (jax))) (jac (jbf (i := 1) sc_signed_in.nd (l_fz (jae G_whole_in hr tk (jao (l_of (jaa 0)) jaq))))
      (jac (jd2 (jae G_need hr tk (jao (l_of (jf6 jlo jnn (jaa 1) (jm2))) jaq)))
      (jbj (jc0 (l_of (jaa 1)))))) (jfl))
      (jac (jbf (i := 1) sc_signed_in.nd (l_fz (jae G_whole_in hr tk (jao (l_fz (jew (jaa 0) (jdq (jad)) jgi)) jaq))))
      (jac (jd2 (jae G_need hr tk (jao (l_and (l_of (jf6 jlo jnn (jaa 1) (jm2))) (l_one (l_of (jf6 op_gt o_cmp (jaa 1) (jad))))) jaq)))
      (jbj (jc0 (l_of (jap op_sub o_sub (jad) (jaa 1))))))))
abbrev ji6 : Stmt := topS 17
abbrev jk9 : List Str := ["word", "parts", "number"]
abbrev jgm : List Str := ["word"]
theorem sc_piece_in : FnScope jk9 jgm (defScope ji6) := ⟨rfl, rfl, rfl, by decide +kernel, rfl, by decide +kernel, by decide +kernel⟩
theorem jna {P : Program} {w : World} {K : PySem.W.Frag} {mg : Str → Option Value} {base : Heap} {a : Addr} {fd : FuncData} (Fu : Fun K "piece_in" "piece_in" ji6 a fd) (G_is_name : Cal P w K mg base 1 "is_name" jfi [] jbr) (G_need : Cal P w K mg base 1 "need" jif [] jbw) (G_whole_in : Cal P w K mg base 1 "whole_in" jft [] jbx) (z_len : mg "len" = none) (g_SHORT : Glo K mg "SHORT" (.int 2)) : FnQ P w K mg base 2 a fd jgm [] jfa :=
  fn_ok (N := jk9) Fu sc_piece_in (by decide) (by decide) fun X vs W cdv A outer s H E hX hr tk => by
    subst hX
    exact (jac (jbf (i := 1) sc_piece_in.nd (l_fz (l_m1 PySem.F.slot_str_split PySem.F.type_str_split mt_split o_split.v jhe (l_of (jaa 0)) (l_of (jax)))))
      (jac (jd2 (jae G_need hr tk (jao (l_and (l_of (jf6 (jfo hr.units) o_eq (jbv jaw o_len (jbh (jaa 1) jc7) jgf z_len) (jad))) (l_and (jae G_is_name hr tk (jao (l_of (re_ix (jb2 (u1 hr)) o_ix (jaa 1) (jad))) jaq)) (l_one (l_of (jf6 op_le o_cmp (jbv jaw o_len (jbh (re_ix (jb2 (u1 hr)) o_ix (jaa 1) (jad)) jc7) jgf z_len) (jim g_SHORT)))))) jaq)))
      (jac (jbf (i := 2) sc_piece_in.nd (l_fz (jae G_whole_in hr tk (jao (l_of (re_ix (jb2 (u1 hr)) o_ix (jaa 1) (jad))) jaq))))
      (jac (jd2 (jae G_need hr tk (jao (l_of (jf6 jlo jnn (jaa 2) (jm2))) jaq)))
      (jbj (jc0 (l_tup (lCons (l_of (re_ix (jb2 (u1 hr)) o_ix (jaa 1) (jad))) (lCons (l_of (jaa 2)) lNil)))))))))
abbrev jkh : Stmt := topS 18
abbrev jmt : List Str := ["word", "parts"]
abbrev jhj : List Str := ["word"]
theorem sc_step_in : FnScope jmt jhj (defScope jkh) := ⟨rfl, rfl, rfl, by decide +kernel, rfl, by decide +kernel, by decide +kernel⟩
theorem jof {P : Program} {w : World} {K : PySem.W.Frag} {mg : Str → Option Value} {base : Heap} {a : Addr} {fd : FuncData} (Fu : Fun K "step_in" "step_in" jkh a fd) (G_is_name : Cal P w K mg base 1 "is_name" jfi [] jbr) (G_need : Cal P w K mg base 1 "need" jif [] jbw) (z_len : mg "len" = none) (g_WORDS : Glo K mg "WORDS" (.con [(.str "begin"), (.str "look"), (.str "now"), (.str "some")])) : FnQ P w K mg base 2 a fd jhj [] jf7 :=
  fn_ok (N := jmt) Fu sc_step_in (by decide) (by decide) fun X vs W cdv A outer s H E hX hr tk => by
    subst hX
    exact (jac (jbf (i := 1) sc_step_in.nd (l_fz (l_m1 PySem.F.slot_str_split PySem.F.type_str_split mt_split o_split.v jhe (jew (jaa 0) (jdq (jad)) jgi) (l_of (jax)))))
      (jac (jd2 (jae G_need hr tk (jao (l_and (l_cmp (jj6 (u66 hr)) (ROp.b o_in).v (jew (jaa 0) jgi (jdq (jad))) (l_tup (lCons (l_of (jax)) (lCons (l_of (jax)) lNil)))) (l_and (l_of (jf6 (jfo hr.units) o_eq (jbv jaw o_len (jbh (jaa 1) jc7) jgf z_len) (jad))) (l_and (l_of (jf6 (jj6 (u66 hr)) o_in (re_ix (jb2 (u1 hr)) o_ix (jaa 1) (jad)) (jim g_WORDS))) (l_one (jae G_is_name hr tk (jao (l_of (re_ix (jb2 (u1 hr)) o_ix (jaa 1) (jad))) jaq)))))) jaq)))
      (jbj (jc0 (l_tup (lCons (l_tup (lCons (l_of (re_ix (jb2 (u1 hr)) o_ix (jaa 1) (jad))) (lCons (l_of (re_ix (jb2 (u1 hr)) o_ix (jaa 1) (jad))) lNil))) (lCons (l_of (jf6 (jfo hr.units) o_eq (re_ix (jb2 (u1 hr)) o_ix (jaa 0) (jad)) (jax))) lNil)))))))
abbrev jf9 : Stmt := topS 19
abbrev jhk : List Str := ["words"]
abbrev jec : List Str := ["words"]
theorem jje : FnScope jhk jec (defScope jf9) := ⟨rfl, rfl, rfl, by decide +kernel, rfl, by decide +kernel, by decide +kernel⟩
theorem jjf {P : Program} {w : World} {K : PySem.W.Frag} {mg : Str → Option Value} {base : Heap} {a : Addr} {fd : FuncData} (Fu : Fun K "words_listed" "words_listed" jf9 a fd) (G_need : Cal P w K mg base 1 "need" jif [] jbw) : FnQ P w K mg base 2 a fd jec [] jaz :=
  fn_ok (N := jhk) Fu jje (by decide) (by decide) fun X vs W cdv A outer s H E hX hr tk => by
    subst hX
    exact (jac (jd2 (jae G_need hr tk (jao (l_cmp (jkv hr.units) (ROp.b o_ne).v (l_of (jaa 0)) (l_lst (lNil))) jaq)))
      (jac (ls_if (jll (jfo hr.units) (ROp.b o_eq).v (l_of (jaa 0)) (l_lst (lCons (l_of (jax)) lNil))) (jbj (jc0 (l_lst (lNil)))) (jfl))
      (jbj (jc0 (l_of (jaa 0))))))
abbrev jfw : Stmt := topS 27
abbrev jgx : List Str := ["paper", "piece", "tie", "forth"]
abbrev jfx : List Str := ["paper"]
theorem sc_told_text : FnScope jgx jfx (defScope jfw) := ⟨rfl, rfl, rfl, by decide +kernel, rfl, by decide +kernel, by decide +kernel⟩
theorem jl0 {P : Program} {w : World} {K : PySem.W.Frag} {mg : Str → Option Value} {base : Heap} {a : Addr} {fd : FuncData} (Fu : Fun K "told_text" "told_text" jfw a fd) (G_listed : Cal P w K mg base 1 "listed" ji4 [] jeq) (G_pair_text : Cal P w K mg base 1 "pair_text" jfu [] jdc) (z_int : mg "int" = none) (z_str : mg "str" = none) : FnQ P w K mg base 2 a fd jfx [] jct :=
  fn_ok (N := jgx) Fu sc_told_text (by decide) (by decide) fun X vs W cdv A outer s H E hX hr tk => by
    subst hX
    exact (jac (ls_if (jgg (jfo hr.units) o_eq (re_ix (jb2 (u1 hr)) o_ix (jaa 0) (jad)) (jax)) (jbj (jc0 (l_bin jd3 o_cat.v (l_of (jap op_addR jdf (jap op_addR jdf (jax) (jex (CallR.or call_str_int SkE.call_str_str) o_str (jbh (re_ix (jb2 (u1 hr)) o_ix (jaa 0) (jad)) jc7) jk1 z_str)) (jax))) (jae G_listed hr tk (jao (l_fz (l_lc (own := [("piece", 1)]) rfl sc_told_text.nd (jid (l_of (re_ix (jb2 (u1 hr)) o_ix (jaa 0) (jad)))) (blkOk_by (N := jgx) (sc := defScope jfw) (own := [("piece", 1)]) (by decide +kernel)) (jg1 rfl) (fun _ _ _ _ _ => jdo 1 (by decide) sc_told_text.nd rfl (by first | exact .inl rfl | exact .inr rfl) rfl (by first | exact .inl rfl | exact .inr rfl)) (fun _ _ _ _ _ => jev) (fun _ _ _ _ _ => jae G_pair_text hr takes00 (jao (l_of (jaa 1)) jaq)))) jaq))))) (jfl))
      (jbj (jc0 (l_bin jd3 o_cat.v (l_of (jax)) (jae G_listed hr tk (jao (l_fz (l_lc (own := [("tie", 2), ("forth", 3)]) rfl sc_told_text.nd (jid (l_of (re_ix (jb2 (u1 hr)) o_ix (jaa 0) (jad)))) (blkOk_by (N := jgx) (sc := defScope jfw) (own := [("tie", 2), ("forth", 3)]) (by decide +kernel)) (jg1 rfl) (fun _ _ _ _ _ => jnm rfl (jfn (jdo 2 (by decide) sc_told_text.nd rfl (by first | exact .inl rfl | exact .inr rfl) rfl (by first | exact .inl rfl | exact .inr rfl)) (jfn (jdo 3 (by decide) sc_told_text.nd rfl (by first | exact .inl rfl | exact .inr rfl) rfl (by first | exact .inl rfl | exact .inr rfl)) (jku)))) (fun _ _ _ _ _ => jev) (fun _ _ _ _ _ => l_bin jd3 o_cat.v (l_ix (jb2 (u1 hr)) (ROp.b o_ix).v (l_lst (lCons (l_of (jax)) (lCons (l_of (jax)) lNil))) (l_of (jex call_int1 o_int (jbh (jaa 3) jc7) jlp z_int))) (jae G_pair_text hr takes00 (jao (l_of (jaa 2)) jaq))))) jaq))))))
abbrev jga : Stmt := topS 32
abbrev jg6 : List Str := ["_law_pen_here", "_law_many", "_law_letters", "_law_way", "_law_turn", "_law_base", "_law_spot", "_law_found", "_law_k", "_law_word", "_law_rest"]
abbrev jdw : List Str := ["_law_pen_here", "_law_many"]
theorem sc__law_names : FnScope jg6 jdw (defScope jga) := ⟨rfl, rfl, rfl, by decide +kernel, rfl, by decide +kernel, by decide +kernel⟩
theorem jla {P : Program} {w : World} {K : PySem.W.Frag} {mg : Str → Option Value} {base : Heap} {a : Addr} {fd : FuncData} (Fu : Fun K "_law_names" "_law_names" jga a fd) (G__law_take : Cal P w K mg base 1 "_law_take" jdi [0] jab) (z_len : mg "len" = none) (z_range : mg "range" = none) : FnQ P w K mg base 2 a fd jdw [0] jbn :=
  fn_ok (N := jg6) Fu sc__law_names (by decide) (by decide) fun X vs W cdv A outer s H E hX hr tk => by
    subst hX
    exact (jac (jbf (i := 2) sc__law_names.nd (l_of (jax)))
      (jac (jbf (i := 3) sc__law_names.nd (l_fz (jae G__law_take hr tk (jd9 0 (jao (l_of (jad)) jaq)))))
      (jac (jbf (i := 4) sc__law_names.nd (l_fz (jae G__law_take hr tk (jd9 0 (jao (l_of (jad)) jaq)))))
      (jac (jbf (i := 5) sc__law_names.nd (l_m1 PySem.F.slot_str_join PySem.F.type_str_join mt_join (ROp.b o_join).v (jmk jij) (l_of (jax)) (l_lc (own := [("_law_k", 8)]) rfl sc__law_names.nd (jd8 (lCons (l_ix (jb2 (u1 hr)) (ROp.b o_ix).v (l_lst (lCons (jae G__law_take hr tk (jd9 0 (jao (l_of (jad)) jaq))) (lCons (l_of (jad)) (lCons (l_of (jad)) lNil)))) (l_of (jaa 3))) lNil) z_range) (blkOk_by (N := jg6) (sc := defScope jga) (own := [("_law_k", 8)]) (by decide +kernel)) (jg1 rfl) (fun _ _ _ _ _ => jdo 8 (by decide) sc__law_names.nd rfl (by first | exact .inl rfl | exact .inr rfl) rfl (by first | exact .inl rfl | exact .inr rfl)) (fun _ _ _ _ _ => jev) (fun _ _ _ _ _ => l_ix0 2 (u1 hr) (jae G__law_take hr takes00 (jd9 0 (jao (l_of (jad)) jaq)))))))
      (jac (jbf (i := 6) sc__law_names.nd (l_fz (jae G__law_take hr tk (jd9 0 (jao (l_of (jap op_addR jdf (jbv jaw o_len (jbh (jaa 5) jc7) jgf z_len) (jad))) jaq)))))
      (jac (jbf (i := 7) sc__law_names.nd (l_lst (lNil)))
      (jac (jiq (passes_of rfl) rfl (jd8 (lCons (l_of (jaa 1)) lNil) z_range) (jdn 8 sc__law_names.nd)
      (jd7 [8, 9, 10] (jac (jbf (i := 9) sc__law_names.nd (l_fz (b_bin jd3 o_cat (re_ix (jb2 (u1 hr)) o_ix (jaa 2) (jap op_mod o_mod (jap op_addR jdf (jaa 4) (jap op_mul jie (jad) (jaa 8))) (jad))) (re_ix (jb2 (u1 hr)) o_ix (jaa 2) (jap op_mod o_mod (jap op_addR jdf (jaa 4) (jap op_fdiv o_div (jaa 8) (jad))) (jad))))))
      (jac (jbf (i := 9) sc__law_names.nd (l_fz (l_bin jd3 o_cat.v (l_bin jd3 o_cat.v (jew (jaa 5) jgi (jdq (jaa 6))) (l_of (jaa 9))) (jew (jaa 5) (jdq (jaa 6)) jgi))))
      (jac (ls_if (jgg (jfo hr.units) o_eq (jaa 3) (jad)) (jac (jbf (i := 9) sc__law_names.nd (l_of (jax)))
      (jac (jbf (i := 10) sc__law_names.nd (l_of (jap op_addR jdf (jaa 8) (jad))))
      (jbj (ls_while (passes_of rfl) (jgg op_gt o_cmp (jaa 10) (jad)) (jac (jbf (i := 9) sc__law_names.nd (l_fz (b_bin jd3 o_cat (re_ix (jb2 (u1 hr)) o_ix (jaa 2) (jap op_mod o_mod (jap op_addR jdf (jaa 4) (jap op_mul jie (jad) (jap op_mod o_mod (jaa 10) (jad)))) (jad))) (jaa 9))))
      (jbj (jbf (i := 10) sc__law_names.nd (l_of (jap op_fdiv o_div (jap op_sub o_sub (jaa 10) (jad)) (jad)))))))))) (jfl))
      (jbj (jd2 (l_meth (dct := false) 7 PySem.F.plainAttrs_list PySem.F.slot_list_append PySem.F.type_list_append mt_append jj9 (lCons (l_of (jaa 9)) lNil)))))))))
      (jbj (jc0 (l_move 7))))))))))
abbrev jgn : Stmt := topS 33
abbrev jia : List Str := ["_law_pen_here", "_law_way", "_law_found", "_law_k"]
abbrev jep : List Str := ["_law_pen_here"]
theorem sc__law_amount : FnScope jia jep (defScope jgn) := ⟨rfl, rfl, rfl, by decide +kernel, rfl, by decide +kernel, by decide +kernel⟩
theorem jki {P : Program} {w : World} {K : PySem.W.Frag} {mg : Str → Option Value} {base : Heap} {a : Addr} {fd : FuncData} (Fu : Fun K "_law_amount" "_law_amount" jgn a fd) (G__law_take : Cal P w K mg base 1 "_law_take" jdi [0] jab) (z_range : mg "range" = none) : FnQ P w K mg base 2 a fd jep [0] jc5 :=
  fn_ok (N := jia) Fu sc__law_amount (by decide) (by decide) fun X vs W cdv A outer s H E hX hr tk => by
    subst hX
    exact (jac (jbf (i := 1) sc__law_amount.nd (l_fz (jae G__law_take hr tk (jd9 0 (jao (l_of (jad)) jaq)))))
      (jac (jbf (i := 2) sc__law_amount.nd (l_fz (jae G__law_take hr tk (jd9 0 (jao (l_of (jad)) jaq)))))
      (jac (jiq (passes_of rfl) rfl (jd8 (lCons (l_ix (jb2 (u1 hr)) (ROp.b o_ix).v (l_lst (lCons (l_of (jad)) (lCons (l_of (jad)) (lCons (l_of (jad)) (lCons (l_of (jad)) lNil))))) (l_of (jaa 1))) lNil) z_range) (jdn 3 sc__law_amount.nd)
      (jd7 [3] (jbj (jbf (i := 2) sc__law_amount.nd (l_fz (l_bin jd3 o_cat.v (l_of (jap op_mul jie (jaa 2) (jap op_pow o_pow (jad) (jad)))) (jae G__law_take hr tk (jd9 0 (jao (l_of (jap op_pow o_pow (jad) (jad))) jaq)))))))))
      (jac (jbf (i := 2) sc__law_amount.nd (l_ix (jb2 (u1 hr)) (ROp.b o_ix).v (l_lst (lCons (l_of (jaa 2)) (lCons (l_of (jad)) (lCons (l_of (jaa 2)) (lCons (l_of (jap op_sub o_sub (jap op_sub o_sub (jap op_pow o_pow (jad) (jad)) (jad)) (jaa 2))) lNil))))) (l_of (jaa 1))))
      (jbj (jc0 (l_bin op_mul (ROp.b jie).v (l_of (jaa 2)) (l_bin op_sub (ROp.b o_sub).v (l_of (jad)) (l_bin op_mul (ROp.b jie).v (l_of (jad)) (jae G__law_take hr tk (jd9 0 (jao (l_of (jad)) jaq))))))))))))
abbrev jc8 : Stmt := topS 36
abbrev jds : List Str := ["_law_paper", "_law_some", "_law_track", "_law_number", "_law_tie", "_law_forth"]
abbrev jc9 : List Str := ["_law_paper"]
theorem sc__law_paper_text : FnScope jds jc9 (defScope jc8) := ⟨rfl, rfl, rfl, by decide +kernel, rfl, by decide +kernel, by decide +kernel⟩
theorem jh1 {P : Program} {w : World} {K : PySem.W.Frag} {mg : Str → Option Value} {base : Heap} {a : Addr} {fd : FuncData} (Fu : Fun K "_law_paper_text" "_law_paper_text" jc8 a fd) (G__law_listed : Cal P w K mg base 1 "_law_listed" jeo [] jb3) (z_int : mg "int" = none) (z_str : mg "str" = none) : FnQ P w K mg base 2 a fd jc9 [] jag :=
  fn_ok (N := jds) Fu sc__law_paper_text (by decide) (by decide) fun X vs W cdv A outer s H E hX hr tk => by
    subst hX
    exact (jac (ls_if (jgg (jfo hr.units) o_eq (re_ix (jb2 (u1 hr)) o_ix (jaa 0) (jad)) (jax)) (jac (ls_frz 1 (jj1 (i := 1) (own := [("_law_track", 2), ("_law_number", 3)]) rfl sc__law_paper_text.nd (sw_true rfl rfl rfl (by decide +kernel)) (jid (l_of (re_ix (jb2 (u1 hr)) o_ix (jaa 0) (jad)))) (blkOk_by (N := jds) (sc := defScope jc8) (own := [("_law_track", 2), ("_law_number", 3)]) (by decide +kernel)) (jg1 rfl) (fun _ _ _ _ _ => jnm rfl (jfn (jdo 2 (by decide) sc__law_paper_text.nd rfl (by first | exact .inl rfl | exact .inr rfl) rfl (by first | exact .inl rfl | exact .inr rfl)) (jfn (jdo 3 (by decide) sc__law_paper_text.nd rfl (by first | exact .inl rfl | exact .inr rfl) rfl (by first | exact .inl rfl | exact .inr rfl)) (jku)))) (fun _ _ _ _ _ => jev) (fun _ _ _ _ _ => l_of (jap op_addR jdf (jap op_addR jdf (jaa 2) (jax)) (jex (CallR.or call_str_int SkE.call_str_str) o_str (jbh (jaa 3) jc7) jk1 z_str)))))
      (jbj (jc0 (l_bin jd3 o_cat.v (l_of (jap op_addR jdf (jap op_addR jdf (jax) (jex (CallR.or call_str_int SkE.call_str_str) o_str (jbh (re_ix (jb2 (u1 hr)) o_ix (jaa 0) (jad)) jc7) jk1 z_str)) (jax))) (jae G__law_listed hr tk (jao (l_of (jaa 1)) jaq)))))) (jfl))
      (jbj (jc0 (l_bin jd3 o_cat.v (l_of (jax)) (jae G__law_listed hr tk (jao (l_fz (l_lc (own := [("_law_tie", 4), ("_law_forth", 5)]) rfl sc__law_paper_text.nd (jid (l_of (re_ix (jb2 (u1 hr)) o_ix (jaa 0) (jad)))) (blkOk_by (N := jds) (sc := defScope jc8) (own := [("_law_tie", 4), ("_law_forth", 5)]) (by decide +kernel)) (jg1 rfl) (fun _ _ _ _ _ => jnm rfl (jfn (jdo 4 (by decide) sc__law_paper_text.nd rfl (by first | exact .inl rfl | exact .inr rfl) rfl (by first | exact .inl rfl | exact .inr rfl)) (jfn (jdo 5 (by decide) sc__law_paper_text.nd rfl (by first | exact .inl rfl | exact .inr rfl) rfl (by first | exact .inl rfl | exact .inr rfl)) (jku)))) (fun _ _ _ _ _ => jev) (fun _ _ _ _ _ => l_bin jd3 o_cat.v (l_bin jd3 o_cat.v (b_bin jd3 o_cat (re_ix (jb2 (u1 hr)) o_ix (jax) (jex call_int1 o_int (jbh (jaa 5) jc7) jlp z_int)) (re_ix (jb2 (u1 hr)) o_ix (jaa 4) (jad))) (l_of (jax))) (l_of (re_ix (jb2 (u1 hr)) o_ix (jaa 4) (jad)))))) jaq))))))
abbrev je4 : Stmt := topS 21
abbrev jfy : List Str := ["text", "words", "ring", "amount", "side", "word", "tie", "forth"]
abbrev jfz : List Str := ["text"]
theorem sc_read_told : FnScope jfy jfz (defScope je4) := ⟨rfl, rfl, rfl, by decide +kernel, rfl, by decide +kernel, by decide +kernel⟩
theorem jl1 {P : Program} {w : World} {K : PySem.W.Frag} {mg : Str → Option Value} {base : Heap} {a : Addr} {fd : FuncData} (Fu : Fun K "read_told" "read_told" je4 a fd) (G_is_rising : Cal P w K mg base 1 "is_rising" jeh [] jb6) (G_need : Cal P w K mg base 1 "need" jif [] jbw) (G_piece_in : Cal P w K mg base 2 "piece_in" jgm [] jfa) (G_signed_in : Cal P w K mg base 2 "signed_in" jfv [] jdd) (G_step_in : Cal P w K mg base 2 "step_in" jhj [] jf7) (G_words_listed : Cal P w K mg base 2 "words_listed" jec [] jaz) (z_isinstance : mg "isinstance" = none) (z_len : mg "len" = none) (z_set : mg "set" = none) (z_str : mg "str" = none) : FnQ P w K mg base 3 a fd jfz [] jcu :=
  fn_ok (N := jfy) Fu sc_read_told (by decide) (by decide) fun X vs W cdv A outer s H E hX hr tk => by
    subst hX
    exact (jac (jd2 (jae G_need hr tk (jao (l_of (jm6 .str (jaa 0) jk1 z_isinstance z_str)) jaq)))
      (jac (jbf (i := 1) sc_read_told.nd (l_fz (l_m1 PySem.F.slot_str_split PySem.F.type_str_split mt_split o_split.v jhe (l_of (jaa 0)) (l_of (jax)))))
      (jac (ls_if (jgg (jfo hr.units) o_eq (re_ix (jb2 (u1 hr)) o_ix (jaa 1) (jad)) (jax)) (jac (jj1 (i := 2) (own := [("word", 5)]) rfl sc_read_told.nd (sw_true rfl rfl rfl (by decide +kernel)) (jid (l_fz (jae G_words_listed hr tk (jao (l_fz (jew (jaa 1) (jdq (jad)) jgi)) jaq)))) (blkOk_by (N := jfy) (sc := defScope je4) (own := [("word", 5)]) (by decide +kernel)) (jg1 rfl) (fun _ _ _ _ _ => jdo 5 (by decide) sc_read_told.nd rfl (by first | exact .inl rfl | exact .inr rfl) rfl (by first | exact .inl rfl | exact .inr rfl)) (fun _ _ _ _ _ => jev) (fun _ _ _ _ _ => jae G_step_in hr takes00 (jao (l_of (jaa 5)) jaq)))
      (jac (jd2 (jae G_need hr tk (jao (l_cmp (jfo hr.units) (ROp.b o_eq).v (l_lend (l_lsM rfl (u66 hr) (lCons (l_lc (own := [("tie", 6), ("forth", 7)]) rfl sc_read_told.nd (jid (l_var 2)) (blkOk_by (N := jfy) (sc := defScope je4) (own := [("tie", 6), ("forth", 7)]) (by decide +kernel)) (jg1 rfl) (fun _ _ _ _ _ => jnm rfl (jfn (jdo 6 (by decide) sc_read_told.nd rfl (by first | exact .inl rfl | exact .inr rfl) rfl (by first | exact .inl rfl | exact .inr rfl)) (jfn (jdo 7 (by decide) sc_read_told.nd rfl (by first | exact .inl rfl | exact .inr rfl) rfl (by first | exact .inl rfl | exact .inr rfl)) (jku)))) (fun _ _ _ _ _ => jev) (fun _ _ _ _ _ => l_of (jaa 6))) lNil) z_len z_set)) (l_of (jbv jaw o_len (jbh (jaa 2) jc7) jgf z_len))) jaq)))
      (jbj (jc0 (l_tup (lCons (l_of (jax)) (lCons (l_move 2) lNil))))))) (jfl))
      (jac (jd2 (jae G_need hr tk (jao (l_and (l_of (jf6 (jfo hr.units) o_eq (re_ix (jb2 (u1 hr)) o_ix (jaa 1) (jad)) (jax))) (l_one (l_of (jf6 op_gt o_cmp (jbv jaw o_len (jbh (jaa 1) jc7) jgf z_len) (jad))))) jaq)))
      (jac (jbf (i := 3) sc_read_told.nd (l_fz (jae G_signed_in hr tk (jao (l_of (re_ix (jb2 (u1 hr)) o_ix (jaa 1) (jad))) jaq))))
      (jac (jj1 (i := 4) (own := [("word", 5)]) rfl sc_read_told.nd (sw_true rfl rfl rfl (by decide +kernel)) (jid (l_fz (jae G_words_listed hr tk (jao (l_fz (jew (jaa 1) (jdq (jad)) jgi)) jaq)))) (blkOk_by (N := jfy) (sc := defScope je4) (own := [("word", 5)]) (by decide +kernel)) (jg1 rfl) (fun _ _ _ _ _ => jdo 5 (by decide) sc_read_told.nd rfl (by first | exact .inl rfl | exact .inr rfl) rfl (by first | exact .inl rfl | exact .inr rfl)) (fun _ _ _ _ _ => jev) (fun _ _ _ _ _ => jae G_piece_in hr takes00 (jao (l_of (jaa 5)) jaq)))
      (jac (jd2 (jae G_need hr tk (jao (l_lend (jae G_is_rising hr tk (jao (l_var 4) jaq))) jaq)))
      (jbj (jc0 (l_tup (lCons (l_of (jax)) (lCons (l_of (jaa 3)) (lCons (l_move 4) lNil)))))))))))))
abbrev jda : Stmt := topS 34
abbrev jdt : List Str := ["_law_pen_here", "_law_way", "_law_names_here", "_law_many", "_law_words", "_law_most", "_law_some", "_law_ring", "_law_k", "_law_tie", "_law_step"]
abbrev jdb : List Str := ["_law_pen_here"]
theorem sc__law_told_paper : FnScope jdt jdb (defScope jda) := ⟨rfl, rfl, rfl, by decide +kernel, rfl, by decide +kernel, by decide +kernel⟩
theorem jh2 {P : Program} {w : World} {K : PySem.W.Frag} {mg : Str → Option Value} {base : Heap} {a : Addr} {fd : FuncData} (Fu : Fun K "_law_told_paper" "_law_told_paper" jda a fd) (G__law_amount : Cal P w K mg base 2 "_law_amount" jep [0] jc5) (G__law_names : Cal P w K mg base 2 "_law_names" jdw [0] jbn) (G__law_take : Cal P w K mg base 1 "_law_take" jdi [0] jab) (z_len : mg "len" = none) (z_range : mg "range" = none) (z_set : mg "set" = none) (z_sorted : mg "sorted" = none) : FnQ P w K mg base 3 a fd jdb [0] jas :=
  fn_ok (N := jdt) Fu sc__law_told_paper (by decide) (by decide) fun X vs W cdv A outer s H E hX hr tk => by
    subst hX
    exact (jac (jbf (i := 1) sc__law_told_paper.nd (l_fz (jae G__law_take hr tk (jd9 0 (jao (l_of (jad)) jaq)))))
      (jac (jbf (i := 2) sc__law_told_paper.nd (l_fz (jae G__law_names hr tk (jd9 0 (jao (l_fz (l_bin jd3 o_cat.v (l_of (jad)) (jae G__law_take hr tk (jd9 0 (jao (l_of (jad)) jaq))))) jaq)))))
      (jac (jbf (i := 3) sc__law_told_paper.nd (l_ix (jb2 (u1 hr)) (ROp.b o_ix).v (l_lst (lCons (l_of (jad)) (lCons (l_of (jad)) (lCons (jae G__law_take hr tk (jd9 0 (jao (l_of (jad)) jaq))) (lCons (l_of (jad)) lNil))))) (jae G__law_take hr tk (jd9 0 (jao (l_of (jad)) jaq)))))
      (jac (jbf (i := 4) sc__law_told_paper.nd (l_fz (l_lst (lCons (l_of (jax)) (lCons (l_of (jax)) (lCons (l_of (jax)) (lCons (l_of (jax)) lNil)))))))
      (jac (ls_if (jgg (jfo hr.units) o_eq (jaa 1) (jad)) (jac (jbf (i := 5) sc__law_told_paper.nd (l_ix (jb2 (u1 hr)) (ROp.b o_ix).v (l_lst (lCons (l_of (jad)) (lCons (l_of (jad)) (lCons (l_of (jad)) lNil)))) (jae G__law_take hr tk (jd9 0 (jao (l_of (jad)) jaq)))))
      (jac (ls_frz 6 (jj1 (i := 6) (own := [("_law_k", 8)]) rfl sc__law_told_paper.nd (sw_true rfl rfl rfl (by decide +kernel)) (jd8 (lCons (l_of (jaa 3)) lNil) z_range) (blkOk_by (N := jdt) (sc := defScope jda) (own := [("_law_k", 8)]) (by decide +kernel)) (jg1 rfl) (fun _ _ _ _ _ => jdo 8 (by decide) sc__law_told_paper.nd rfl (by first | exact .inl rfl | exact .inr rfl) rfl (by first | exact .inl rfl | exact .inr rfl)) (fun _ _ _ _ _ => jev) (fun _ _ _ _ _ => l_tup (lCons (l_ix0 2 (u1 hr) (jae G__law_take hr takes00 (jd9 0 (jao (l_of (jbv jaw o_len (jbh (jaa 2) jc7) jgf z_len)) jaq)))) (lCons (jae G__law_take hr takes00 (jd9 0 (jao (l_of (jaa 5)) jaq))) lNil)))))
      (jbj (jc0 (l_tup (lCons (l_of (jax)) (lCons (jae G__law_amount hr tk (jd9 0 jaq)) (lCons (b_ssM rfl (u66 hr) (jbh (jaa 6) jc7) z_sorted z_set) lNil)))))))) (jfl))
      (jac (jbf (i := 7) sc__law_told_paper.nd (l_lst (lNil)))
      (jac (jiq (passes_of rfl) rfl (jd8 (lCons (l_of (jaa 3)) lNil) z_range) (jdn 8 sc__law_told_paper.nd)
      (jd7 [8, 9] (jac (jbf (i := 9) sc__law_told_paper.nd (l_tup (lCons (l_ix0 4 (u1 hr) (jae G__law_take hr tk (jd9 0 (jao (l_of (jad)) jaq)))) (lCons (l_ix0 2 (u1 hr) (jae G__law_take hr tk (jd9 0 (jao (l_of (jbv jaw o_len (jbh (jaa 2) jc7) jgf z_len)) jaq)))) lNil))))
      (jbj (ls_if (lt_lend (jll (jm5 (u66 hr)) (ROp.b o_notIn).v (l_of (jaa 9)) (l_lc (own := [("_law_step", 10)]) rfl sc__law_told_paper.nd (jid (l_var 7)) (blkOk_by (N := jdt) (sc := defScope jda) (own := [("_law_step", 10)]) (by decide +kernel)) (jg1 rfl) (fun _ _ _ _ _ => jdo 10 (by decide) sc__law_told_paper.nd rfl (by first | exact .inl rfl | exact .inr rfl) rfl (by first | exact .inl rfl | exact .inr rfl)) (fun _ _ _ _ _ => jev) (fun _ _ _ _ _ => l_of (re_ix (jb2 (u1 hr)) o_ix (jaa 10) (jad)))))) (jbj (jd2 (l_meth (dct := false) 7 PySem.F.plainAttrs_list PySem.F.slot_list_append PySem.F.type_list_append mt_append jj9 (lCons (l_tup (lCons (l_of (jaa 9)) (lCons (l_cmp (jfo hr.units) (ROp.b o_eq).v (jae G__law_take hr tk (jd9 0 (jao (l_of (jad)) jaq))) (l_of (jad))) lNil))) lNil)))) (jfl))))))
      (jbj (jc0 (l_tup (lCons (l_of (jax)) (lCons (l_move 7) lNil))))))))))))
abbrev jf0 : Stmt := topS 28
abbrev jh3 : List Str := ["tree", "good", "names", "trees", "one"]
abbrev jd5 : List Str := ["tree"]
theorem sc_tree_text : FnScope jh3 jd5 (defScope jf0) := ⟨rfl, rfl, rfl, by decide +kernel, rfl, by decide +kernel, by decide +kernel⟩
theorem jib {P : Program} {w : World} {K : PySem.W.Frag} {mg : Str → Option Value} {base : Heap} {a : Addr} {fd : FuncData} (Fu : Fun K "tree_text" "tree_text" jf0 a fd) (mx : mg "tree_text" = some (.ref a)) : ∀ j : Nat, FnQ P w K mg base (0 + j) a fd jd5 [] (jc6 j)
  | 0 => fn_bad
  | j + 1 => by
    have G_tree_text : Cal P w K mg base (0 + j) "tree_text" jd5 [] (jc6 j) := ⟨a, _, jib Fu  mx j, mx, Fu.kp, Fu.binds (ps := jd5) fun _ _ _ _ _ _ us hl => match us, hl with | [_], _ => rfl⟩
    exact fn_ok (k := 0 + j) (N := jh3) Fu sc_tree_text (by decide) (by decide) fun X vs W cdv A outer s H E hX hr tk => by
      subst hX
      exact (jac (jlm (l_of (jaa 0)) (lg_tup rfl (jfm (jdn 1 sc_tree_text.nd) (jfm (jdn 2 sc_tree_text.nd) (jfm (jdn 3 sc_tree_text.nd) (jmd))))))
      (jbj (jc0 (l_bin jd3 o_cat.v (l_bin jd3 o_cat.v (l_bin jd3 o_cat.v (l_bin jd3 o_cat.v (l_of (jap op_addR jdf (jaa 1) (jax))) (l_m1 PySem.F.slot_str_join PySem.F.type_str_join mt_join (ROp.b o_join).v (jmk jij) (l_of (jax)) (l_of (jaa 2)))) (l_of (jax))) (l_m1 PySem.F.slot_str_join PySem.F.type_str_join mt_join (ROp.b o_join).v (jmk jij) (l_of (jax)) (l_lc (own := [("one", 4)]) rfl sc_tree_text.nd (jid (l_of (jaa 3))) (blkOk_by (N := jh3) (sc := defScope jf0) (own := [("one", 4)]) (by decide +kernel)) (jg1 rfl) (fun _ _ _ _ _ => jdo 4 (by decide) sc_tree_text.nd rfl (by first | exact .inl rfl | exact .inr rfl) rfl (by first | exact .inl rfl | exact .inr rfl)) (fun _ _ _ _ _ => jev) (fun _ _ _ _ _ => jae G_tree_text hr takes00 (jao (l_of (jaa 4)) jaq) (by omega))))) (l_of (jax))))))
theorem jl2 {P : Program} {w : World} {K : PySem.W.Frag} {mg : Str → Option Value} {base : Heap} {a : Addr} {fd : FuncData} (Fu : Fun K "tree_text" "tree_text" jf0 a fd) (mx : mg "tree_text" = some (.ref a)) : FnQ P w K mg base 30 a fd jd5 [] jfr := jib Fu  mx 30
abbrev jed : Stmt := topS 38
abbrev jgo : List Str := ["_law_tree_here", "_law_good", "_law_names_here", "_law_trees", "_law_found", "_law_k"]
abbrev jbq : List Str := ["_law_tree_here"]
theorem sc__law_tree_text : FnScope jgo jbq (defScope jed) := ⟨rfl, rfl, rfl, by decide +kernel, rfl, by decide +kernel, by decide +kernel⟩
theorem jf1 {P : Program} {w : World} {K : PySem.W.Frag} {mg : Str → Option Value} {base : Heap} {a : Addr} {fd : FuncData} (Fu : Fun K "_law_tree_text" "_law_tree_text" jed a fd) (z_int : mg "int" = none) (z_len : mg "len" = none) (z_range : mg "range" = none) (mx : mg "_law_tree_text" = some (.ref a)) : ∀ j : Nat, FnQ P w K mg base (0 + j) a fd jbq [] (jbg j)
  | 0 => fn_bad
  | j + 1 => by
    have G__law_tree_text : Cal P w K mg base (0 + j) "_law_tree_text" jbq [] (jbg j) := ⟨a, _, jf1 Fu z_int z_len z_range mx j, mx, Fu.kp, Fu.binds (ps := jbq) fun _ _ _ _ _ _ us hl => match us, hl with | [_], _ => rfl⟩
    exact fn_ok (k := 0 + j) (N := jgo) Fu sc__law_tree_text (by decide) (by decide) fun X vs W cdv A outer s H E hX hr tk => by
      subst hX
      exact (jac (jlm (l_of (jaa 0)) (lg_tup rfl (jfm (jdn 1 sc__law_tree_text.nd) (jfm (jdn 2 sc__law_tree_text.nd) (jfm (jdn 3 sc__law_tree_text.nd) (jmd))))))
      (jac (jbf (i := 4) sc__law_tree_text.nd (l_of (jap op_addR jdf (jaa 1) (jax))))
      (jac (jiq (passes_of rfl) rfl (jd8 (lCons (l_of (jbv jaw o_len (jbh (jaa 2) jc7) jgf z_len)) lNil) z_range) (jdn 5 sc__law_tree_text.nd)
      (jd7 [5] (jbj (jbf (i := 4) sc__law_tree_text.nd (l_of (jap op_addR jdf (jap op_addR jdf (jaa 4) (jap op_mulT o_mulT (jax) (jex call_int1 o_int (jbh (jf6 op_gt o_cmp (jaa 5) (jad)) jc7) jlp z_int))) (re_ix (jb2 (u1 hr)) o_ix (jaa 2) (jaa 5))))))))
      (jac (jbf (i := 4) sc__law_tree_text.nd (l_of (jap op_addR jdf (jaa 4) (jax))))
      (jac (jiq (passes_of rfl) rfl (jd8 (lCons (l_of (jbv jaw o_len (jbh (jaa 3) jc7) jgf z_len)) lNil) z_range) (jdn 5 sc__law_tree_text.nd)
      (jd7 [5] (jbj (jbf (i := 4) sc__law_tree_text.nd (l_fz (l_bin jd3 o_cat.v (l_of (jap op_addR jdf (jaa 4) (jap op_mulT o_mulT (jax) (jex call_int1 o_int (jbh (jf6 op_gt o_cmp (jaa 5) (jad)) jc7) jlp z_int)))) (jae G__law_tree_text hr tk (jao (l_of (re_ix (jb2 (u1 hr)) o_ix (jaa 3) (jaa 5))) jaq) (by omega))))))))
      (jbj (jc0 (l_of (jap op_addR jdf (jaa 4) (jax))))))))))
theorem jig {P : Program} {w : World} {K : PySem.W.Frag} {mg : Str → Option Value} {base : Heap} {a : Addr} {fd : FuncData} (Fu : Fun K "_law_tree_text" "_law_tree_text" jed a fd) (z_int : mg "int" = none) (z_len : mg "len" = none) (z_range : mg "range" = none) (mx : mg "_law_tree_text" = some (.ref a)) : FnQ P w K mg base 30 a fd jbq [] jdg := jf1 Fu z_int z_len z_range mx 30
abbrev jhl : Stmt := topS 22
abbrev jkj : List Str := ["text", "at", "deep", "cut", "end", "good", "names", "trees", "number", "tree", "name"]
abbrev jfj : List Str := ["text", "at", "deep"]
theorem sc_tree_at : FnScope jkj jfj (defScope jhl) := ⟨rfl, rfl, rfl, by decide +kernel, rfl, by decide +kernel, by decide +kernel⟩
theorem jjq {P : Program} {w : World} {K : PySem.W.Frag} {mg : Str → Option Value} {base : Heap} {a : Addr} {fd : FuncData} (Fu : Fun K "tree_at" "tree_at" jhl a fd) (G_is_name : Cal P w K mg base 1 "is_name" jfi [] jbr) (G_is_rising : Cal P w K mg base 1 "is_rising" jeh [] jb6) (G_need : Cal P w K mg base 1 "need" jif [] jbw) (z_all : mg "all" = none) (z_int : mg "int" = none) (z_len : mg "len" = none) (z_range : mg "range" = none) (z_tuple : mg "tuple" = none) (g_DEEPEST : Glo K mg "DEEPEST" (.int 3)) (mx : mg "tree_at" = some (.ref a)) : ∀ j : Nat, FnQ P w K mg base (1 + j) a fd jfj [] (jc3 j)
  | 0 => fn_bad
  | j + 1 => by
    have G_tree_at : Cal P w K mg base (1 + j) "tree_at" jfj [] (jc3 j) := ⟨a, _, jjq Fu G_is_name G_is_rising G_need z_all z_int z_len z_range z_tuple g_DEEPEST mx j, mx, Fu.kp, Fu.binds (ps := jfj) fun _ _ _ _ _ _ us hl => match us, hl with | [_, _, _], _ => rfl⟩
    exact fn_ok (k := 1 + j) (N := jkj) Fu sc_tree_at (by decide) (by decide) fun X vs W cdv A outer s H E hX hr tk => by
      subst hX
      exact (jac (jd2 (jae G_need hr tk (jao (l_of (jf6 op_le o_cmp (jaa 2) (jim g_DEEPEST))) jaq) (by omega)))
      (jac (jbf (i := 3) sc_tree_at.nd (l_of (re_find (jaa 0) (jax) (jaa 1))))
      (jac (jbf (i := 4) sc_tree_at.nd (l_of (re_find (jaa 0) (jax) (jaa 1))))
      (jac (jd2 (jae G_need hr tk (jao (l_and (l_of (re_chain op_lt op_lt o_cmp o_cmp (jaa 1) (jaa 3) (jaa 4))) (l_one (jae G_is_name hr tk (jao (l_fz (jew (jaa 0) (jdq (jaa 1)) (jdq (jaa 3)))) jaq) (by omega)))) jaq) (by omega)))
      (jac (jbf (i := 5) sc_tree_at.nd (l_fz (jew (jaa 0) (jdq (jaa 1)) (jdq (jaa 3)))))
      (jac (jbf (i := 6) sc_tree_at.nd (l_fz (l_m1 PySem.F.slot_str_split PySem.F.type_str_split mt_split o_split.v jhe (jew (jaa 0) (jdq (jap op_addR jdf (jaa 3) (jad))) (jdq (jaa 4))) (l_of (jax)))))
      (jac (jd2 (jae G_need hr tk (jao (l_and (jjh (cr_all rfl) (ROp.b o_all).v (lCons (l_lc (own := [("name", 10)]) rfl sc_tree_at.nd (jid (l_of (jaa 6))) (blkOk_by (N := jkj) (sc := defScope jhl) (own := [("name", 10)]) (by decide +kernel)) (jg1 rfl) (fun _ _ _ _ _ => jdo 10 (by decide) sc_tree_at.nd rfl (by first | exact .inl rfl | exact .inr rfl) rfl (by first | exact .inl rfl | exact .inr rfl)) (fun _ _ _ _ _ => jev) (fun _ _ _ _ _ => jae G_is_name hr takes00 (jao (l_of (jaa 10)) jaq) (by omega))) lNil) bb_all z_all) (l_one (jae G_is_rising hr tk (jao (l_of (jaa 6)) jaq) (by omega)))) jaq) (by omega)))
      (jac (jbf (i := 1) sc_tree_at.nd (l_of (jap op_addR jdf (jaa 4) (jad))))
      (jac (ls_if (jll (jfo hr.units) (ROp.b o_eq).v (jew (jaa 0) (jdq (jaa 1)) (jdq (jap op_addR jdf (jaa 1) (jad)))) (l_of (jax))) (jbj (jc0 (l_tup (lCons (l_tup (lCons (l_of (jaa 5)) (lCons (jlk call_tuple_of o_tuple (jbh (jaa 6) jc7) jhr z_tuple) (lCons (l_tup (lNil)) lNil)))) (lCons (l_of (jap op_addR jdf (jaa 1) (jad))) lNil))))) (jfl))
      (jac (jbf (i := 7) sc_tree_at.nd (l_lst (lNil)))
      (jac (jiq (passes_of rfl) rfl (li_range2 (lCons (l_of (jad)) (lCons (l_of (jap op_addR jdf (jbv jaw o_len (jbh (jaa 6) jc7) jgf z_len) (jad))) lNil)) z_range) (jdn 8 sc_tree_at.nd)
      (jd7 [8, 9] (jac (jlm (l_fz (jae G_tree_at hr tk (jao (l_of (jaa 0)) (jao (l_of (jaa 1)) (jao (l_of (jap op_addR jdf (jaa 2) (jad))) jaq))) (by omega))) (lg_tup rfl (jfm (jdn 9 sc_tree_at.nd) (jfm (jdn 1 sc_tree_at.nd) (jmd)))))
      (jac (jd2 (l_meth (dct := false) 7 PySem.F.plainAttrs_list PySem.F.slot_list_append PySem.F.type_list_append mt_append jj9 (lCons (l_of (jaa 9)) lNil)))
      (jac (jd2 (jae G_need hr tk (jao (l_cmp (jfo hr.units) (ROp.b o_eq).v (jew (jaa 0) (jdq (jaa 1)) (jdq (jap op_addR jdf (jaa 1) (jad)))) (l_ix (jb2 (u1 hr)) (ROp.b o_ix).v (l_lst (lCons (l_of (jax)) (lCons (l_of (jax)) lNil))) (l_of (jex call_int1 o_int (jbh (jf6 (jfo hr.units) o_eq (jaa 8) (jbv jaw o_len (jbh (jaa 6) jc7) jgf z_len)) jc7) jlp z_int)))) jaq) (by omega)))
      (jbj (jbf (i := 1) sc_tree_at.nd (l_of (jap op_addR jdf (jaa 1) (jad))))))))))
      (jbj (jc0 (l_tup (lCons (l_tup (lCons (l_of (jaa 5)) (lCons (jlk call_tuple_of o_tuple (jbh (jaa 6) jc7) jhr z_tuple) (lCons (jlk call_tuple_of o_tuple (jbh (jaa 7) jc7) jhr z_tuple) lNil)))) (lCons (l_of (jaa 1)) lNil))))))))))))))))
theorem jog {P : Program} {w : World} {K : PySem.W.Frag} {mg : Str → Option Value} {base : Heap} {a : Addr} {fd : FuncData} (Fu : Fun K "tree_at" "tree_at" jhl a fd) (G_is_name : Cal P w K mg base 1 "is_name" jfi [] jbr) (G_is_rising : Cal P w K mg base 1 "is_rising" jeh [] jb6) (G_need : Cal P w K mg base 1 "need" jif [] jbw) (z_all : mg "all" = none) (z_int : mg "int" = none) (z_len : mg "len" = none) (z_range : mg "range" = none) (z_tuple : mg "tuple" = none) (g_DEEPEST : Glo K mg "DEEPEST" (.int 3)) (mx : mg "tree_at" = some (.ref a)) : FnQ P w K mg base 31 a fd jfj [] jhg := jjq Fu G_is_name G_is_rising G_need z_all z_int z_len z_range z_tuple g_DEEPEST mx 30
abbrev jh4 : Stmt := topS 23
abbrev jjr : List Str := ["text", "tree", "end"]
abbrev jf2 : List Str := ["text"]
theorem sc_read_tree : FnScope jjr jf2 (defScope jh4) := ⟨rfl, rfl, rfl, by decide +kernel, rfl, by decide +kernel, by decide +kernel⟩
theorem jl3 {P : Program} {w : World} {K : PySem.W.Frag} {mg : Str → Option Value} {base : Heap} {a : Addr} {fd : FuncData} (Fu : Fun K "read_tree" "read_tree" jh4 a fd) (G_need : Cal P w K mg base 1 "need" jif [] jbw) (G_tree_at : Cal P w K mg base 31 "tree_at" jfj [] jhg) (z_isinstance : mg "isinstance" = none) (z_len : mg "len" = none) (z_str : mg "str" = none) : FnQ P w K mg base 32 a fd jf2 [] jeg :=
  fn_ok (N := jjr) Fu sc_read_tree (by decide) (by decide) fun X vs W cdv A outer s H E hX hr tk => by
    subst hX
    exact (jac (jd2 (jae G_need hr tk (jao (l_of (jm6 .str (jaa 0) jk1 z_isinstance z_str)) jaq)))
      (jac (jlm (l_fz (jae G_tree_at hr tk (jao (l_of (jaa 0)) (jao (l_of (jad)) (jao (l_of (jad)) jaq))))) (lg_tup rfl (jfm (jdn 1 sc_read_tree.nd) (jfm (jdn 2 sc_read_tree.nd) (jmd)))))
      (jac (jd2 (jae G_need hr tk (jao (l_of (jf6 (jfo hr.units) o_eq (jaa 2) (jbv jaw o_len (jbh (jaa 0) jc7) jgf z_len))) jaq)))
      (jbj (jc0 (l_of (jaa 1)))))))
abbrev jf3 : Stmt := topS 37
abbrev jh5 : List Str := ["_law_pen_here", "_law_deep", "_law_way", "_law_good", "_law_names_here", "_law_name"]
abbrev jd6 : List Str := ["_law_pen_here", "_law_deep"]
theorem sc__law_tree : FnScope jh5 jd6 (defScope jf3) := ⟨rfl, rfl, rfl, by decide +kernel, rfl, by decide +kernel, by decide +kernel⟩
theorem jic {P : Program} {w : World} {K : PySem.W.Frag} {mg : Str → Option Value} {base : Heap} {a : Addr} {fd : FuncData} (Fu : Fun K "_law_tree" "_law_tree" jf3 a fd) (G__law_names : Cal P w K mg base 2 "_law_names" jdw [0] jbn) (G__law_take : Cal P w K mg base 1 "_law_take" jdi [0] jab) (z_sorted : mg "sorted" = none) (z_tuple : mg "tuple" = none) (mx : mg "_law_tree" = some (.ref a)) : ∀ j : Nat, FnQ P w K mg base (2 + j) a fd jd6 [0] (jay j)
  | 0 => fn_bad
  | j + 1 => by
    have G__law_tree : Cal P w K mg base (2 + j) "_law_tree" jd6 [0] (jay j) := ⟨a, _, jic Fu G__law_names G__law_take z_sorted z_tuple mx j, mx, Fu.kp, Fu.binds (ps := jd6) fun _ _ _ _ _ _ us hl => match us, hl with | [_, _], _ => rfl⟩
    exact fn_ok (k := 2 + j) (N := jh5) Fu sc__law_tree (by decide) (by decide) fun X vs W cdv A outer s H E hX hr tk => by
      subst hX
      exact (jac (jbf (i := 2) sc__law_tree.nd (l_fz (jae G__law_take hr tk (jd9 0 (jao (l_of (jad)) jaq)) (by omega))))
      (jac (jbf (i := 3) sc__law_tree.nd (l_ix (jb2 (u1 hr)) (ROp.b o_ix).v (jae G__law_names hr tk (jd9 0 (jao (l_of (jad)) jaq)) (by omega)) (jae G__law_take hr tk (jd9 0 (jao (l_of (jad)) jaq)) (by omega))))
      (jac (jbf (i := 4) sc__law_tree.nd (l_fz (jjy call_tuple_of o_tuple.v (lCons (jjh (jnv (u66 hr)) o_sorted.v (lCons (jae G__law_names hr tk (jd9 0 (jao (l_fz (l_bin jd3 o_cat.v (l_of (jad)) (jae G__law_take hr tk (jd9 0 (jao (l_of (jad)) jaq)) (by omega)))) jaq)) (by omega)) lNil) bb_sorted z_sorted) lNil) jhr z_tuple)))
      (jac (ls_if (jip (lw_or (jgg (jfo hr.units) o_eq (jaa 1) (jad)) (jnk (jgg (jfo hr.units) o_eq (jaa 2) (jad))))) (jbj (jc0 (l_tup (lCons (l_of (jaa 3)) (lCons (l_of (jaa 4)) (lCons (l_tup (lNil)) lNil)))))) (jfl))
      (jbj (jc0 (l_tup (lCons (l_of (jaa 3)) (lCons (l_of (jaa 4)) (lCons (jjy call_tuple_of o_tuple.v (lCons (l_lc (own := [("_law_name", 5)]) rfl sc__law_tree.nd (jid (l_of (jaa 4))) (blkOk_by (N := jh5) (sc := defScope jf3) (own := [("_law_name", 5)]) (by decide +kernel)) (jg1 rfl) (fun _ _ _ _ _ => jdo 5 (by decide) sc__law_tree.nd rfl (by first | exact .inl rfl | exact .inr rfl) rfl (by first | exact .inl rfl | exact .inr rfl)) (fun _ _ _ _ _ => jev) (fun _ _ _ _ _ => jae G__law_tree hr takes00 (jd9 0 (jao (l_of (jap op_sub o_sub (jaa 1) (jad))) jaq)) (by omega))) lNil) jhr z_tuple) lNil))))))))))
theorem jl4 {P : Program} {w : World} {K : PySem.W.Frag} {mg : Str → Option Value} {base : Heap} {a : Addr} {fd : FuncData} (Fu : Fun K "_law_tree" "_law_tree" jf3 a fd) (G__law_names : Cal P w K mg base 2 "_law_names" jdw [0] jbn) (G__law_take : Cal P w K mg base 1 "_law_take" jdi [0] jab) (z_sorted : mg "sorted" = none) (z_tuple : mg "tuple" = none) (mx : mg "_law_tree" = some (.ref a)) : FnQ P w K mg base 32 a fd jd6 [0] jeb := jic Fu G__law_names G__law_take z_sorted z_tuple mx 30
abbrev s_law : Stmt := topS 39
abbrev N_law : List Str := ["_law_script", "_law_pen_here", "_law_turn", "_law_paper", "_law_kept", "_law_text", "_law_again", "_law_found", "_law_there", "_law_tree_here"]
abbrev P_law : List Str := ["_law_script"]
theorem sc_law : FnScope N_law P_law (defScope s_law) := ⟨rfl, rfl, rfl, by decide +kernel, rfl, by decide +kernel, by decide +kernel⟩
theorem ok_law {P : Program} {w : World} {K : PySem.W.Frag} {mg : Str → Option Value} {base : Heap} {a : Addr} {fd : FuncData} (Fu : Fun K "law" "law" s_law a fd) (G__law_paper_text : Cal P w K mg base 2 "_law_paper_text" jc9 [] jag) (G__law_pen : Cal P w K mg base 1 "_law_pen" jgk [] jel) (G__law_told_paper : Cal P w K mg base 3 "_law_told_paper" jdb [0] jas) (G__law_tree : Cal P w K mg base 32 "_law_tree" jd6 [0] jeb) (G__law_tree_text : Cal P w K mg base 30 "_law_tree_text" jbq [] jdg) (G_read_told : Cal P w K mg base 3 "read_told" jfz [] jcu) (G_read_tree : Cal P w K mg base 32 "read_tree" jf2 [] jeg) (G_told_text : Cal P w K mg base 2 "told_text" jfx [] jct) (G_tree_text : Cal P w K mg base 30 "tree_text" jd5 [] jfr) (z_isinstance : mg "isinstance" = none) (z_range : mg "range" = none) (z_repr : mg "repr" = none) (z_str : mg "str" = none) (z_tuple : mg "tuple" = none) : FnQ P w K mg base 33 a fd P_law [] jhh :=
  fn_ok (N := N_law) Fu sc_law (by decide) (by decide) fun X vs W cdv A outer s H E hX hr tk => by
    subst hX
    exact (jac (jbf (i := 1) sc_law.nd (jae G__law_pen hr tk (jao (l_of (jaa 0)) jaq)))
      (jac (jiq (passes_of rfl) rfl (jd8 (lCons (l_of (jad)) lNil) z_range) (jdn 2 sc_law.nd)
      (jd7 [2, 3, 4, 5, 6, 7, 8] (jac (jbf (i := 3) sc_law.nd (l_fz (jae G__law_told_paper hr tk (jd9 1 jaq))))
      (jac (jbf (i := 4) sc_law.nd (l_of (jbv (jk3 hr.gd (u66 hr)) jny (jbh (jaa 3) jc7) jk4 z_repr)))
      (jac (jbf (i := 5) sc_law.nd (l_fz (jae G__law_paper_text hr tk (jao (l_of (jaa 3)) jaq))))
      (jac (jiq (passes_of rfl) rfl (jd8 (lCons (l_of (jad)) lNil) z_range) (jdn 6 sc_law.nd)
      (jd7 [6, 7, 8] (jac (jbf (i := 7) sc_law.nd (l_fz (jae G_told_text hr tk (jao (l_of (jaa 3)) jaq))))
      (jac (jbf (i := 8) sc_law.nd (jae G_read_told hr tk (jao (l_of (jaa 5)) jaq)))
      (jac (ls_if (jip (lw_or (jkt (jni (jm6 .str (jaa 7) jk1 z_isinstance z_str))) (lw_or (jgg (jkv hr.units) o_ne (jaa 7) (jaa 5)) (lw_or (jkt (jni (jm6 .tuple (jaa 8) jhr z_isinstance z_tuple))) (jnk (jgg (jkv hr.units) o_ne (jbv (jk3 hr.gd (u66 hr)) jny (jbh (jaa 8) jc7) jk4 z_repr) (jaa 4))))))) (jbj (jc0 (l_of (re_bl)))) (jfl))
      (jbj (jd2 (l_methR (dct := false) PySem.F.plainAttrs_list PySem.F.slot_list_append PySem.F.type_list_append mt_append jj9 (pp_ix (u1 hr) (jk0 8) (re_un un_neg o_neg (jad))) (jbh (jm2) jc7)))))))))
      (jbj (ls_if (jgg (jkv hr.units) o_ne (jbv (jk3 hr.gd (u66 hr)) jny (jbh (jaa 3) jc7) jk4 z_repr) (jaa 4)) (jbj (jc0 (l_of (re_bl)))) (jfl)))))))))
      (jac (jiq (passes_of rfl) rfl (jd8 (lCons (l_of (jad)) lNil) z_range) (jdn 2 sc_law.nd)
      (jd7 [2, 5, 6, 7, 9] (jac (jbf (i := 9) sc_law.nd (l_fz (jae G__law_tree hr tk (jd9 1 (jao (l_of (jad)) jaq)))))
      (jac (jbf (i := 5) sc_law.nd (l_fz (jae G__law_tree_text hr tk (jao (l_of (jaa 9)) jaq))))
      (jbj (jiq (passes_of rfl) rfl (jd8 (lCons (l_of (jad)) lNil) z_range) (jdn 6 sc_law.nd)
      (jd7 [6, 7] (jac (jbf (i := 7) sc_law.nd (l_fz (jae G_tree_text hr tk (jao (l_of (jaa 9)) jaq))))
      (jbj (ls_if (jip (lw_or (jkt (jni (jm6 .str (jaa 7) jk1 z_isinstance z_str))) (lw_or (jgg (jkv hr.units) o_ne (jaa 7) (jaa 5)) (jnk (jll (jkv hr.units) (ROp.b o_ne).v (jjh (jk3 hr.gd (u66 hr)) (ROp.b jny).v (lCons (jae G_read_tree hr tk (jao (l_of (jaa 5)) jaq)) lNil) jk4 z_repr) (l_of (jbv (jk3 hr.gd (u66 hr)) jny (jbh (jaa 9) jc7) jk4 z_repr))))))) (jbj (jc0 (l_of (re_bl)))) (jfl)))))))))))
      (jbj (jc0 (l_of (re_bl)))))))
end Q
section
open PySem PySem.W PyProof.Rows
set_option maxHeartbeats 0 in
theorem Q.pre_look (k : PySem.Challenge.rw_shelfcounts_k76_papers_written_and_read.row.wellSaid = true → PySem.Challenge.rw_shelfcounts_k76_papers_written_and_read.row.Holds) : PySem.Challenge.rw_shelfcounts_k76_papers_written_and_read.Holds := by
  w_on; o_law; exact k (by assumption)
end
namespace Q
open PySem PySem.Spec PyProof.Rows L2
noncomputable section
end
end Q
namespace Q
open PySem PySem.Spec PyProof.Rows L2
noncomputable section
end
end Q
namespace Q
open PySem PySem.Spec PyProof.Rows L2
noncomputable section
end
end Q
namespace Q
open PySem PySem.Spec PyProof.Rows L2
structure NBo (c c' : Bool) : Prop where
  e : c = c'
theorem nb_t : NBo true true := ⟨rfl⟩
theorem nb_f : NBo false false := ⟨rfl⟩
theorem nb_yes {c : Bool} (h : c = true) : NBo c true := ⟨h⟩
theorem nb_no {c : Bool} (h : c = false) : NBo c false := ⟨h⟩
structure NE (ρ ρ' : Env) : Prop where
  e : ρ = ρ'
theorem nset_0 {x : Option T} {r : Env} {y : Option T} : NE (List.set (y :: r) 0 x) (x :: r) := ⟨rfl⟩
theorem nset_s {x y : Option T} {r r' : Env} {n : Nat} (h : NE (List.set r n x) r') : NE (List.set (y :: r) (n + 1) x) (y :: r') := ⟨by rw [List.set_cons_succ, h.e]⟩
theorem nwipe_n {ρ : Env} : NE (wipeE ρ []) ρ := ⟨rfl⟩
theorem nwipe_c {ρ ρ1 ρ2 : Env} {i : Nat} {is : List Nat} (h : NE (wipeE ρ is) ρ1) (h2 : NE (ρ1.set i none) ρ2) : NE (wipeE ρ (i :: is)) ρ2 := ⟨by rw [wipeE, h.e, h2.e]⟩
def mkE : Nat → List T → Env
  | 0, _ => []
  | n + 1, [] => none :: mkE n []
  | n + 1, t :: ts => some t :: mkE n ts
theorem nmk_0 {ts : List T} : NE (mkE 0 ts) [] := ⟨rfl⟩
theorem nmk_n {n : Nat} {ρ : Env} (h : NE (mkE n []) ρ) : NE (mkE (n + 1) []) (none :: ρ) := ⟨by rw [mkE, h.e]⟩
theorem nmk_c {n : Nat} {t : T} {ts : List T} {ρ : Env} (h : NE (mkE n ts) ρ) : NE (mkE (n + 1) (t :: ts)) (some t :: ρ) := ⟨by rw [mkE, h.e]⟩
theorem mkE_eq : ∀ (N : Nat) (ts : List T), ts.length ≤ N → ts.map some ++ List.replicate (N - ts.length) none = mkE N ts
  | 0, [], _ => rfl
  | 0, _ :: _, h => by simp at h
  | n + 1, [], _ => by
    have := mkE_eq n [] (Nat.zero_le _)
    simp only [List.map_nil, List.nil_append, List.length_nil, Nat.sub_zero] at this ⊢
    rw [List.replicate_succ, mkE, this]
  | n + 1, t :: ts, h => by
    have := mkE_eq n ts (by simpa using h)
    rw [mkE, ← this, List.map_cons, List.cons_append, List.length_cons, show n + 1 - (ts.length + 1) = n - ts.length by omega]
structure AT (ρ : Env) (i : Nat) (x : Option T) : Prop where
  e : ρ[i]? = some x
theorem at_z {x : Option T} {r : Env} : AT (x :: r) 0 x := ⟨rfl⟩
theorem at_s {x y : Option T} {r : Env} {n : Nat} (h : AT r n x) : AT (y :: r) (n + 1) x := ⟨by rw [List.getElem?_cons_succ, h.e]⟩
structure NZ (t t' : T) : Prop where
  e : t.fz = t'
structure NZs (ts ts' : List T) : Prop where
  e : fzs ts = ts'
theorem nz_of {t t' : T} (h : t.fz = t') : NZ t t' := ⟨h⟩
theorem nzs_of {ts ts' : List T} (h : fzs ts = ts') : NZs ts ts' := ⟨h⟩
theorem nz_non : NZ .non .non := ⟨rfl⟩
theorem nz_bl {b : Bool} : NZ (.bl b) (.bl b) := ⟨rfl⟩
theorem nz_int {i : Int} : NZ (.int i) (.int i) := ⟨rfl⟩
theorem nz_str {x : Str} : NZ (.str x) (.str x) := ⟨rfl⟩
theorem nz_tup {xs ys : List T} (h : NZs xs ys) : NZ (.tup xs) (.tup ys) := ⟨by rw [T.fz, h.e]⟩
theorem nz_con {xs ys : List T} (h : NZs xs ys) : NZ (.con xs) (.con ys) := ⟨by rw [T.fz, h.e]⟩
theorem nz_lst {o : Bool} {xs ys : List T} (h : NZs xs ys) : NZ (.lst o xs) (.lst false ys) := ⟨by rw [T.fz, h.e]⟩
theorem nz_dic {o tk : Bool} {ks xs ys : List T} (h : NZs xs ys) : NZ (.dic o tk ks xs) (.dic false tk ks ys) := ⟨by rw [T.fz, h.e]⟩
theorem nzs_n : NZs [] [] := ⟨rfl⟩
theorem nzs_c {x y : T} {xs ys : List T} (h : NZ x y) (hs : NZs xs ys) : NZs (x :: xs) (y :: ys) := ⟨by rw [fzs, h.e, hs.e]⟩
theorem fr_tup {xs : List T} (h : frs xs = true) : (T.tup xs).fr = true := by rw [T.fr]; exact h
theorem fr_con {xs : List T} (h : frs xs = true) : (T.con xs).fr = true := by rw [T.fr]; exact h
theorem fr_lst {xs : List T} (h : frs xs = true) : (T.lst false xs).fr = true := by rw [T.fr, h]; rfl
theorem fr_dic {tk : Bool} {ks xs : List T} (h : frs xs = true) : (T.dic false tk ks xs).fr = true := by rw [T.fr, h]; rfl
theorem fr_non : T.non.fr = true := rfl
theorem fr_bl {b : Bool} : (T.bl b).fr = true := rfl
theorem fr_int {i : Int} : (T.int i).fr = true := rfl
theorem fr_str {x : Str} : (T.str x).fr = true := rfl
theorem frs_n : frs [] = true := rfl
theorem frs_c {x : T} {xs : List T} (h : x.fr = true) (hs : frs xs = true) : frs (x :: xs) = true := by rw [frs, h, hs]; rfl
section
variable {ρ ρ1 ρ2 ρ3 : Env} {t t' u : T} {ts us : List T} {i : Nat}
theorem jet {x : T} (h : AT ρ i (some x)) : rVar i ρ = some x := by unfold rVar; rw [h.e]
theorem ev_c : rC t ρ = some t := rfl
theorem ev_op1 {f : List T → Option T} {r : Dr} {a b : T} (h : r ρ = some a) (hf : f [a] = some b) : rOp1 f r ρ = some b := by unfold rOp1; rw [h]; exact hf
theorem ev_op2 {f : List T → Option T} {r s : Dr} {a b c : T} (h : r ρ = some a) (h2 : s ρ = some b) (hf : f [a, b] = some c) : rOp2 f r s ρ = some c := by unfold rOp2; rw [h, h2]; exact hf
theorem ev_op3 {f : List T → Option T} {r s v : Dr} {a b c d : T} (h : r ρ = some a) (h2 : s ρ = some b) (h3 : v ρ = some c) (hf : f [a, b, c] = some d) : rOp3 f r s v ρ = some d := by unfold rOp3; rw [h, h2, h3]; exact hf
theorem ev_opN {f : List T → Option T} {rs : List Dr} {c : T} (h : rs.mapM (fun r => r ρ) = some ts) (hf : f ts = some c) : rOpN f rs ρ = some c := by unfold rOpN; rw [h]; exact hf
theorem ev_rsN : ([] : List Dr).mapM (fun r => r ρ) = some [] := rfl
theorem ev_rsC {r : Dr} {rs : List Dr} {a : T} (h : r ρ = some a) (hs : rs.mapM (fun r => r ρ) = some ts) : (r :: rs).mapM (fun r => r ρ) = some (a :: ts) := by
  rw [List.mapM_cons, h, hs]; rfl
theorem ev_of {r : Dr} (h : r ρ = some t) (hf : t.fr = true) : dOf r ρ = .ok (t, ρ) := by unfold dOf; rw [h]; exact if_pos hf
theorem ev_dvar (h : AT ρ i (some t)) (hz : NZ t t') (e : NE (ρ.set i (some t')) ρ1) : dVar i ρ = .ok (t', ρ1) := by
  unfold dVar
  rw [jet h, ← e.e, ← hz.e]
theorem ev_move (h : AT ρ i (some t)) (e : NE (ρ.set i none) ρ1) : dMove i ρ = .ok (t, ρ1) := by
  unfold dMove
  rw [jet h, ← e.e]
theorem ev_fz {d : De} (h : d ρ = .ok (t, ρ1)) (hz : NZ t t') : dFz d ρ = .ok (t', ρ1) := by
  unfold dFz
  rw [h, ← hz.e]; rfl
theorem ev_vop {f : List T → Option T} {ds : Da} (h : ds ρ = .ok (ts, ρ1)) (hf : f ts = some t) : vOp f ds ρ = .ok (t, ρ1) := by
  unfold vOp
  rw [h]
  show (match f ts with | some t => R.ok (t, ρ1) | none => .bad) = _
  rw [hf]
theorem ev_bop {f : List T → Option T} {rs : List Dr} (h : rs.mapM (fun r => r ρ) = some ts) (hf : f ts = some t) : bOp f rs ρ = .ok (t, ρ) := by
  unfold bOp
  rw [h]
  show (match f ts with | some t => R.ok (t, ρ) | none => .bad) = _
  rw [hf]
theorem ev_fro {f : List T → Option T} (h : f ts = some t) (hf : t.fr = true) : fro f ts = some t := by
  unfold fro
  rw [h]
  exact if_pos hf
theorem ev_not {d : De} {c : Bool} (h : d ρ = .ok (.bl c, ρ1)) : dNot d ρ = .ok (.bl (!c), ρ1) := by unfold dNot; rw [h]; rfl
theorem ev_ix0 {d : De} {x : T} (h0 : AT ρ i (some x)) (h : d ρ = .ok (u, ρ1)) (h1 : AT ρ1 i (some t)) (hf : fIx [t, u] = some t') (fr : t'.fr = true) : dIx0 i d ρ = .ok (t', ρ1) := by
  unfold dIx0
  rw [jet h0]
  show (d ρ).bind _ = _
  rw [h]
  show (match rVar i ρ1 with
    | some t => (match fIx [t, u] with | some u => if u.fr = true then R.ok (u, ρ1) else .bad | none => .bad)
    | none => .bad) = _
  rw [jet h1]
  show (match fIx [t, u] with | some u => if u.fr = true then R.ok (u, ρ1) else .bad | none => .bad) = _
  rw [hf]
  exact if_pos fr
theorem ev_bndN : bndOf none ρ = some none := rfl
theorem ev_bndS {r : Dr} {k : Int} (h : r ρ = some (.int k)) : bndOf (some r) ρ = some (some k) := by
  show (match r ρ with | some (.int i) => some (some i) | _ => none) = _
  rw [h]
theorem ev_dslice {d : De} {lo hi : Option Dr} {l h : Option Int} (h0 : d ρ = .ok (t, ρ1)) (h1 : bndOf lo ρ1 = some l) (h2 : bndOf hi ρ1 = some h) (hf : fCut t l h = some u) : jdj d lo hi ρ = .ok (u, ρ1) := by
  unfold jdj
  rw [h0]
  show (match bndOf lo ρ1, bndOf hi ρ1 with
    | some l, some h => (match fCut t l h with | some u => R.ok (u, ρ1) | none => .bad)
    | _, _ => .bad) = _
  rw [h1, h2]
  show (match fCut t l h with | some u => R.ok (u, ρ1) | none => .bad) = _
  rw [hf]
theorem ev_bslice {r : Dr} {lo hi : Option Dr} {l h : Option Int} (h0 : r ρ = some t) (h1 : bndOf lo ρ = some l) (h2 : bndOf hi ρ = some h) (hf : fCut t l h = some u) : jbm r lo hi ρ = .ok (u, ρ) := by
  unfold jbm
  rw [h0, h1, h2]
  show (match fCut t l h with | some u => R.ok (u, ρ) | none => .bad) = _
  rw [hf]
theorem ev_disp {ks : List Key} {ds : Da} (h : ds ρ = .ok (ts, ρ1)) (hl : ts.length = ks.length) : dDisp ks ds ρ = .ok (.dic true false (ks.map keyT) ts, ρ1) := by
  unfold dDisp
  rw [h]
  exact if_pos hl
theorem ev_newD {tk : Bool} : dNewD tk ρ = .ok (.dic true tk [] [], ρ) := rfl
theorem ev_noEx {d : De} (h : d ρ = .ok (t, ρ1)) : noEx d ρ = .ok (t, ρ1) := by unfold noEx; rw [h]
theorem ev_comp {own : List Nat} {it : Da} {g : T → Env → Option Env} {c : Db} {d : De} {x : R (T × Env)} (h : it ρ = .ok (ts, ρ1)) (h2 : cLoop own g c d ts [] ρ1 = x) : dComp own it g c d ρ = x := by
  unfold dComp
  rw [h]
  exact h2
theorem ev_compO {own : List Nat} {g : T → Env → Option Env} {c : Db} {d : De} (h : AT ρ i (some (.lst true ts))) (hf : frs ts = true) (e : NE (ρ.set i none) ρ1) (h2 : cLoop own g c d ts [] ρ1 = .ok (t, ρ2)) (h3 : AT ρ2 i none) (e2 : NE (ρ2.set i (some (.lst true ts))) ρ3) : dCompO i own g c d ρ = .ok (t, ρ3) := by
  unfold dCompO
  rw [jet h]
  show (if frs ts = true then _ else _) = _
  rw [if_pos hf, e.e, h2]
  show (if jfd i ρ2 = true then R.ok (t, ρ2.set i (some (.lst true ts))) else .bad) = _
  have em : jfd i ρ2 = true := by unfold jfd; rw [h3.e]
  rw [if_pos em, e2.e]
theorem ev_call {f : FD} {ino : List Nat} {lk : List (Option Nat)} {ds : Da} {os : List T} (h : ds ρ = .ok (ts, ρ1)) (hf : f ts = .ok t os) (hb : jah lk ino os ρ1 = some ρ2) : dCall f ino lk ds ρ = .ok (t, ρ2) := by
  unfold dCall
  rw [h]
  show (match f ts with
    | .ok t os => (match jah lk ino os ρ1 with | some ρ' => R.ok (t, ρ') | none => .bad)
    | .ex z os => (match jah lk ino os ρ1 with | some ρ' => .ex z ρ' | none => .bad)
    | .bad => .bad) = _
  rw [hf]
  show (match jah lk ino os ρ1 with | some ρ' => R.ok (t, ρ') | none => .bad) = _
  rw [hb]
theorem pb_n {lk : List (Option Nat)} : jah lk [] [] ρ = some ρ := rfl
theorem pb_c {lk : List (Option Nat)} {j s : Nat} {is : List Nat} {o : T} {os : List T} {x : Option Env} (h : lk[j]? = some (some s)) (h2 : AT ρ s none) (e : NE (ρ.set s (some o)) ρ1) (h3 : jah lk is os ρ1 = x) : jah lk (j :: is) (o :: os) ρ = x := by
  unfold jah
  rw [h]
  show (match ρ[s]? with | some none => jah lk is os (ρ.set s (some o)) | _ => none) = _
  rw [h2.e, e.e]
  exact h3
theorem pb_v {lk : List (Option Nat)} {j : Nat} {is : List Nat} {o : T} {os : List T} {x : Option Env} (h : lk[j]? = some none) (h3 : jah lk is os ρ = x) : jah lk (j :: is) (o :: os) ρ = x := by
  unfold jah
  rw [h]
  exact h3
theorem ev_nil : dNil ρ = .ok ([], ρ) := rfl
theorem ev_cons {d : De} {ds : Da} (h : d ρ = .ok (t, ρ1)) (hs : ds ρ1 = .ok (ts, ρ2)) : dCons d ds ρ = .ok (t :: ts, ρ2) := by
  unfold dCons
  rw [h]
  show (ds ρ1).bind _ = _
  rw [hs]; rfl
theorem ev_ino {ds : Da} {x : T} (h0 : AT ρ i (some x)) (hs : ds ρ = .ok (ts, ρ1)) (h1 : AT ρ1 i (some t)) (e : NE (ρ1.set i none) ρ2) : dIno i ds ρ = .ok (t :: ts, ρ2) := by
  unfold dIno
  rw [jet h0]
  show (ds ρ).bind _ = _
  rw [hs]
  show (match rVar i ρ1 with | some t => R.ok (t :: ts, ρ1.set i none) | none => .bad) = _
  rw [jet h1, e.e]
theorem ev_seqI {d : De} (h : d ρ = .ok (t, ρ1)) (hi : jeu t = some ts) : iSeq d ρ = .ok (ts, ρ1) := by
  unfold iSeq
  rw [h]
  show (match jeu t with | some ts => R.ok (ts, ρ1) | none => .bad) = _
  rw [hi]
theorem it_tup (h : frs ts = true) : jeu (.tup ts) = some ts := if_pos h
theorem it_con (h : frs ts = true) : jeu (.con ts) = some ts := if_pos h
theorem it_lst (h : frs ts = true) : jeu (.lst false ts) = some ts := if_pos h
theorem ev_enum {d : De} (h : d ρ = .ok (t, ρ1)) (hi : jeu t = some ts) : iEnum1 d ρ = .ok (enumT 0 ts, ρ1) := by
  unfold iEnum1
  rw [h]
  show (match jeu t with | some ts => R.ok (enumT 0 ts, ρ1) | none => .bad) = _
  rw [hi]
theorem ev_rng1 {ds : Da} {k : Int} (h : ds ρ = .ok ([.int k], ρ1)) (hs : small62 k = true) : jat ds ρ = .ok (intsT 0 k.toNat, ρ1) := by
  unfold jat
  rw [h]
  exact if_pos hs
theorem ev_rng2 {ds : Da} {j k : Int} (h : ds ρ = .ok ([.int j, .int k], ρ1)) (h1 : small62 j = true) (h2 : small62 k = true) : jbo ds ρ = .ok (intsT j (k - j).toNat, ρ1) := by
  unfold jbo
  rw [h]
  exact if_pos (by rw [h1, h2]; rfl)
theorem ev_strT {d : De} {z : Str} (h : d ρ = .ok (.str z, ρ1)) : iStrT d ρ = .ok (jge z, ρ1) := by
  unfold iStrT
  rw [h]; rfl
theorem ev_rt {r : Dr} {c c' : Bool} (h : r ρ = some (.bl c)) (hc : NBo c c') : rTest r ρ = .ok (c', ρ) := by unfold rTest; rw [h, hc.e]
theorem ev_bt {d : De} {c c' : Bool} (h : d ρ = .ok (.bl c, ρ1)) (hc : NBo c c') : bTest d ρ = .ok (c', ρ1) := by unfold bTest; rw [h, hc.e]; rfl
def bnK : Bool → Env → R (Bool × Env)
  | true, ρ => .ok (false, ρ)
  | false, ρ => .ok (true, ρ)
def baK : Bool → Db → Db
  | true, d => d
  | false, _ => fun ρ => .ok (false, ρ)
def boK : Bool → Db → Db
  | true, _ => fun ρ => .ok (true, ρ)
  | false, d => d
theorem ev_bn {d : Db} {b : Bool} {x : R (Bool × Env)} (h : d ρ = .ok (b, ρ1)) (h2 : bnK b ρ1 = x) : bNot d ρ = x := by
  unfold bNot; rw [h]; cases b <;> exact h2
theorem ev_ba {d d' : Db} {b : Bool} {x : R (Bool × Env)} (h : d ρ = .ok (b, ρ1)) (h2 : baK b d' ρ1 = x) : bAnd d d' ρ = x := by
  unfold bAnd; rw [h]; cases b <;> exact h2
theorem ev_bo {d d' : Db} {b : Bool} {x : R (Bool × Env)} (h : d ρ = .ok (b, ρ1)) (h2 : boK b d' ρ1 = x) : bOr d d' ρ = x := by
  unfold bOr; rw [h]; cases b <;> exact h2
theorem bn_t : bnK true ρ = .ok (false, ρ) := rfl
theorem bn_f : bnK false ρ = .ok (true, ρ) := rfl
theorem ba_t {d : Db} {x : R (Bool × Env)} (h : d ρ = x) : baK true d ρ = x := h
theorem ba_f {d : Db} : baK false d ρ = .ok (false, ρ) := rfl
theorem bo_t {d : Db} : boK true d ρ = .ok (true, ρ) := rfl
theorem bo_f {d : Db} {x : R (Bool × Env)} (h : d ρ = x) : boK false d ρ = x := h
theorem ev_yes : bYes ρ = .ok (true, ρ) := rfl
theorem ev_gs (e : NE (ρ.set i (some t)) ρ1) : gSlot i t ρ = some ρ1 := by unfold gSlot; rw [e.e]
theorem ev_gt {n : Nat} {gs : List T → Env → Option Env} {x : Option Env} (hl : ts.length = n) (h : gs ts ρ = x) : gTree n gs (.tup ts) ρ = x := by
  unfold gTree
  show (if ts.length = n then gs ts ρ else none) = _
  rw [if_pos hl]; exact h
theorem ev_gn : gsNil [] ρ = some ρ := rfl
theorem ev_gc {g : T → Env → Option Env} {gs : List T → Env → Option Env} {x : Option Env} (h : g t ρ = some ρ1) (hs : gs ts ρ1 = x) : jbl g gs (t :: ts) ρ = x := by
  show (g t ρ).bind (gs ts) = _
  rw [h]; exact hs
theorem ev_gp {p : Da} {r : Dr} {k : T} {x : Option Env} (h : p ρ = .ok (ts, ρ1)) (hk : r ρ1 = some k) (hu : upPut i ts k t ρ1 = x) : gPut i p r t ρ = x := by
  unfold gPut
  rw [h]
  show ((r ρ1).bind fun k => upPut i ts k t ρ1) = _
  rw [hk]; exact hu
theorem ev_gp0 {d : De} {k y : T} {x : Option Env} (h0 : AT ρ i (some y)) (h : d ρ = .ok (k, ρ1)) (hf : k.fr = true) (hu : upPut i [] k t ρ1 = x) : gPut0 i d t ρ = x := by
  unfold gPut0
  rw [jet h0]
  show (match d ρ with | .ok x => if x.1.fr = true then upPut i [] x.1 t x.2 else none | _ => none) = _
  rw [h]
  show (if k.fr = true then upPut i [] k t ρ1 else none) = _
  rw [if_pos hf]; exact hu
theorem ev_up0 {k v w : T} (h0 : AT ρ i (some t)) (h2 : put2 v t k = some w) (e : NE (ρ.set i (some w)) ρ1) : upPut i [] k v ρ = some ρ1 := by
  unfold upPut
  rw [jet h0]
  show ((put2 v t k).bind _) = _
  rw [h2, ← e.e]; rfl
theorem ev_pn (h : AT ρ i (some t)) : pName i ρ = .ok ([], ρ) := by unfold pName; rw [jet h]
theorem ev_px {p : Da} {r : Dr} {k : T} (h : p ρ = .ok (ts, ρ1)) (hk : r ρ1 = some k) (h0 : AT ρ1 i (some t)) (hs : (pathT t (ts ++ [k])).isSome = true) : pIx i p r ρ = .ok (ts ++ [k], ρ1) := by
  unfold pIx
  rw [h]
  show (match r ρ1, rVar i ρ1 with
    | some k, some t => if (pathT t (ts ++ [k])).isSome = true then R.ok (ts ++ [k], ρ1) else .bad
    | _, _ => .bad) = _
  rw [hk, jet h0]
  exact if_pos hs
theorem ev_px1 {r : Dr} {k : T} (h1 : AT ρ i (some t)) (hk : r ρ = some k) (ha : at1 t k = some u) : pIx i (pName i) r ρ = .ok ([k], ρ) :=
  ev_px (ts := []) (ev_pn h1) hk h1 (by show (pathT t [k]).isSome = true; unfold pathT; rw [ha]; rfl)
theorem ev_px0 {d : De} {k x : T} (h1 : AT ρ i (some x)) (hk : d ρ = .ok (k, ρ1)) (h2 : AT ρ1 i (some t)) (ha : at1 t k = some u) : pIx0 i d ρ = .ok ([k], ρ1) := by
  unfold pIx0
  rw [jet h1]
  show (d ρ).bind _ = _
  rw [hk]
  show (match rVar i ρ1 with
    | some t => if (at1 t k).isSome = true then R.ok ([k], ρ1) else .bad
    | none => .bad) = _
  rw [jet h2]
  exact if_pos (by rw [ha]; rfl)
theorem ev_us0 {f : T → List T → Option (T × T)} {res w : T} (h0 : AT ρ i (some t)) (hf : f t ts = some (res, w)) (e : NE (ρ.set i (some w)) ρ1) : jbp i f [] ts ρ = .ok (res, ρ1) := by
  unfold jbp
  rw [jet h0]
  show (match f t ts with | some (res, u') => (match putP u' t [] with | some t' => R.ok (res, ρ.set i (some t')) | none => .bad) | none => .bad) = _
  rw [hf, ← e.e]; rfl
theorem ev_us1 {f : T → List T → Option (T × T)} {res w k w' : T} (h0 : AT ρ i (some t)) (ha : at1 t k = some u) (hf : f u ts = some (res, w)) (hp : put1 w t k = some w') (e : NE (ρ.set i (some w')) ρ1) : jbp i f [k] ts ρ = .ok (res, ρ1) := by
  unfold jbp
  rw [jet h0]
  have p1 : pathT t [k] = some u := by unfold pathT; rw [ha]; rfl
  have p2 : putP w t [k] = some w' := by
    show ((at1 t k).bind fun c => (putP w c []).bind fun c' => put1 c' t k) = _
    rw [ha]; exact hp
  show (match pathT t [k] with | some u => (match f u ts with | some (res, u') => (match putP u' t [k] with | some t' => R.ok (res, ρ.set i (some t')) | none => .bad) | none => .bad) | none => .bad) = _
  rw [p1]
  show (match f u ts with | some (res, u') => (match putP u' t [k] with | some t' => R.ok (res, ρ.set i (some t')) | none => .bad) | none => .bad) = _
  rw [hf]
  show (match putP w t [k] with | some t' => R.ok (res, ρ.set i (some t')) | none => .bad) = _
  rw [p2, ← e.e]
theorem ev_meth {dct : Bool} {f : T → List T → Option (T × T)} {ds : Da} {x : R (T × Env)} (h0 : AT ρ i (some t)) (ho : t.isO dct = true) (h : ds ρ = .ok (ts, ρ1)) (h2 : jbp i f [] ts ρ1 = x) : dMeth dct i f ds ρ = x := by
  unfold dMeth
  have : atK dct i [] ρ = true := by unfold atK; rw [jet h0]; exact ho
  rw [if_pos this, h]
  exact h2
theorem ev_methR {dct : Bool} {f : T → List T → Option (T × T)} {p : Da} {rs : List Dr} {k : T} {x : R (T × Env)} (h : p ρ = .ok ([k], ρ1)) (h0 : AT ρ1 i (some t)) (ha : at1 t k = some u) (ho : u.isO dct = true) (hr : rs.mapM (fun r => r ρ1) = some ts) (hf : frs ts = true) (h2 : jbp i f [k] ts ρ1 = x) : jcy dct i f p rs ρ = x := by
  unfold jcy
  rw [h]
  have : atK dct i [k] ρ1 = true := by
    unfold atK
    rw [jet h0]
    show (match pathT t [k] with | some u => u.isO dct | none => false) = true
    have p1 : pathT t [k] = some u := by unfold pathT; rw [ha]; rfl
    rw [p1]; exact ho
  show (if atK dct i [k] ρ1 = true then _ else _) = _
  rw [if_pos this, hr]
  show (if frs ts = true then jbp i f [k] ts ρ1 else .bad) = _
  rw [if_pos hf]; exact h2
theorem ev_methO {dct : Bool} {f : T → List T → Option (T × T)} {p ds : Da} {k t2 : T} {x : R (T × Env)} (h : p ρ = .ok ([k], ρ1)) (h0 : AT ρ1 i (some t)) (ha : at1 t k = some u) (ho : u.isO dct = true) (e : NE (ρ1.set i none) ρ2) (hd : ds ρ2 = .ok (ts, ρ3)) (h3 : AT ρ3 i none) {ρ4 : Env} (e2 : NE (ρ3.set i (some t)) ρ4) (h2 : jbp i f [k] ts ρ4 = x) : jdk dct i f p ds ρ = x := by
  unfold jdk
  rw [h]
  have : atK dct i [k] ρ1 = true := by
    unfold atK
    rw [jet h0]
    show (match pathT t [k] with | some u => u.isO dct | none => false) = true
    have p1 : pathT t [k] = some u := by unfold pathT; rw [ha]; rfl
    rw [p1]; exact ho
  show (if atK dct i [k] ρ1 = true then _ else _) = _
  rw [if_pos this, jet h0]
  show ((ds (ρ1.set i none)).bind _) = _
  rw [e.e, hd]
  have em : jfd i ρ3 = true := by unfold jfd; rw [h3.e]
  show (if jfd i ρ3 = true then jbp i f [k] ts (ρ3.set i (some t)) else .bad) = _
  rw [if_pos em, e2.e]; exact h2
theorem ev_get2 {d e f : De} {a b c : T} (h : d ρ = .ok (a, ρ1)) (hd : a.isDic = true) (he : e ρ1 = .ok (b, ρ2)) (hf : f ρ2 = .ok (c, ρ3)) (hg : fGet2 [a, b, c] = some t) (fr : t.fr = true) : dGet2L d e f ρ = .ok (t, ρ3) := by
  unfold dGet2L
  rw [h]
  show (if a.isDic = true then _ else _) = _
  rw [if_pos hd, he]
  show (f ρ2).bind _ = _
  rw [hf]
  show (match fro fGet2 [a, b, c] with | some t => R.ok (t, ρ3) | none => .bad) = _
  rw [ev_fro hg fr]
def seqK : Fl → Ds → Fl
  | .nx ρ, b => b ρ
  | f, _ => f
theorem ev_seq {a b : Ds} {x f : Fl} (h : a ρ = x) (h2 : seqK x b = f) : sSeq a b ρ = f := by
  unfold sSeq
  rw [h]
  cases x <;> exact h2
theorem sk_nx {b : Ds} {f : Fl} (h : b ρ = f) : seqK (.nx ρ) b = f := h
theorem sk_rt {b : Ds} : seqK (.rt t ρ) b = .rt t ρ := rfl
theorem sk_ex {b : Ds} {z : Ex} : seqK (.ex z ρ) b = .ex z ρ := rfl
theorem sk_ct {b : Ds} : seqK (.ct ρ) b = .ct ρ := rfl
theorem sk_bk {b : Ds} : seqK (.bk ρ) b = .bk ρ := rfl
def ifK : Bool → Ds → Ds → Ds
  | true, a, _ => a
  | false, _, b => b
theorem ev_if {c : Db} {a b : Ds} {k : Bool} {f : Fl} (h : c ρ = .ok (k, ρ1)) (h2 : ifK k a b ρ1 = f) : sIf c a b ρ = f := by
  unfold sIf
  rw [h]
  cases k <;> exact h2
theorem ik_t {a b : Ds} {f : Fl} (h : a ρ = f) : ifK true a b ρ = f := h
theorem ik_f {a b : Ds} {f : Fl} (h : b ρ = f) : ifK false a b ρ = f := h
theorem ev_set {d : De} (h : d ρ = .ok (t, ρ1)) (e : NE (ρ1.set i (some t)) ρ2) : sSet i d ρ = .nx ρ2 := by
  unfold sSet
  rw [h, ← e.e]; rfl
theorem ev_setX {d : De} {z : Ex} (h : d ρ = .ex z ρ1) : sSet i d ρ = .ex z ρ1 := by
  unfold sSet
  rw [h]; rfl
theorem ev_asg {d : De} {g : T → Env → Option Env} (h : d ρ = .ok (t, ρ1)) (hg : g t ρ1 = some ρ2) : sAsg d g ρ = .nx ρ2 := by
  unfold sAsg
  rw [h]
  show (match g t ρ1 with | some ρ' => Fl.nx ρ' | none => .bad) = _
  rw [hg]
theorem ev_expr {d : De} (h : d ρ = .ok (t, ρ1)) : sExpr d ρ = .nx ρ1 := by unfold sExpr; rw [h]; rfl
theorem ev_ret {d : De} (h : d ρ = .ok (t, ρ1)) : sRet d ρ = .rt t ρ1 := by unfold sRet; rw [h]; rfl
theorem ev_retN : sRetN ρ = .rt .non ρ := rfl
theorem ev_snil : sNil ρ = .nx ρ := rfl
theorem ev_frz {x : Ds} (h : x ρ = .nx ρ1) (h1 : AT ρ1 i (some t)) (hz : NZ t t') (e : NE (ρ1.set i (some t')) ρ2) : sFrz i x ρ = .nx ρ2 := by
  unfold sFrz
  rw [h]
  show (match rVar i ρ1 with | some t => Fl.nx (ρ1.set i (some t.fz)) | none => .bad) = _
  rw [jet h1, ← e.e, ← hz.e]
theorem el_n {g : T → Env → Option Env} {b : Ds} : fLoop g b [] ρ = .nx ρ := rfl
theorem el_c {g : T → Env → Option Env} {b : Ds} {f : Fl} (hg : g t ρ = some ρ1) (hb : b ρ1 = .nx ρ2) (h : fLoop g b ts ρ2 = f) : fLoop g b (t :: ts) ρ = f := by
  rw [fLoop, hg]
  simp only [hb]
  exact h
theorem ev_for {it : Da} {g : T → Env → Option Env} {b : Ds} {f : Fl} (h : it ρ = .ok (ts, ρ1)) (h2 : fLoop g b ts ρ1 = f) : sFor it g b ρ = f := by
  unfold sFor
  rw [h]
  exact h2
theorem ev_forO {g : T → Env → Option Env} {b : Ds} (h : AT ρ i (some (.lst true ts))) (hf : frs ts = true) (e : NE (ρ.set i none) ρ1) (h2 : fLoop g b ts ρ1 = .nx ρ2) (h3 : AT ρ2 i none) (e2 : NE (ρ2.set i (some (.lst true ts))) ρ3) : sForO i g b ρ = .nx ρ3 := by
  unfold sForO
  rw [jet h]
  show (if frs ts = true then _ else _) = _
  rw [if_pos hf, e.e, h2]
  have em : jfd i ρ2 = true := by unfold jfd; rw [h3.e]
  show (if jfd i ρ2 = true then Fl.nx (ρ2.set i (some (.lst true ts))) else .bad) = _
  rw [if_pos em, e2.e]
def jjs (is : List Nat) : Fl → Fl
  | .nx ρ' => .nx (wipeE ρ' is)
  | .ct ρ' => .ct (wipeE ρ' is)
  | .bk ρ' => .bk (wipeE ρ' is)
  | y => y
theorem ev_forget {is : List Nat} {a : Ds} {x f : Fl} (h : a ρ = x) (h2 : jjs is x = f) : jar is a ρ = f := by
  unfold jar
  rw [h]
  cases x <;> exact h2
theorem fk_nx {is : List Nat} (e : NE (wipeE ρ is) ρ1) : jjs is (.nx ρ) = .nx ρ1 := by rw [← e.e]; rfl
theorem fk_ct {is : List Nat} (e : NE (wipeE ρ is) ρ1) : jjs is (.ct ρ) = .ct ρ1 := by rw [← e.e]; rfl
theorem fk_bk {is : List Nat} (e : NE (wipeE ρ is) ρ1) : jjs is (.bk ρ) = .bk ρ1 := by rw [← e.e]; rfl
theorem fk_rt {is : List Nat} : jjs is (.rt t ρ) = .rt t ρ := rfl
theorem fk_ex {is : List Nat} {z : Ex} : jjs is (.ex z ρ) = .ex z ρ := rfl
def runK (ino : List Nat) : Fl → FR
  | .rt t ρ => (match outs ino ρ with | some os => FR.ok t os | none => .bad)
  | .nx ρ => (match outs ino ρ with | some os => FR.ok .non os | none => .bad)
  | .ex x ρ => (match outs ino ρ with | some os => FR.ex x os | none => .bad)
  | _ => .bad
theorem jcz {N : Nat} {ino : List Nat} {body : Ds} {x : Fl} {f : FR} (hl : ts.length ≤ N) (e : NE (mkE N ts) ρ) (h : body ρ = x) (h2 : runK ino x = f) : fRun N ino body ts = f := by
  unfold fRun
  rw [mkE_eq N ts hl, e.e, h]
  cases x <;> exact h2
theorem rk_rt {ino : List Nat} {os : List T} (h : outs ino ρ = some os) : runK ino (.rt t ρ) = .ok t os := by
  show (match outs ino ρ with | some os => FR.ok t os | none => .bad) = _
  rw [h]
theorem rk_nx {ino : List Nat} {os : List T} (h : outs ino ρ = some os) : runK ino (.nx ρ) = .ok .non os := by
  show (match outs ino ρ with | some os => FR.ok .non os | none => .bad) = _
  rw [h]
theorem rk_ex {ino : List Nat} {os : List T} {z : Ex} (h : outs ino ρ = some os) : runK ino (.ex z ρ) = .ex z os := by
  show (match outs ino ρ with | some os => FR.ex z os | none => .bad) = _
  rw [h]
theorem outs_n : outs [] ρ = some [] := rfl
theorem outs_c {is : List Nat} {os : List T} (h : AT ρ i (some t)) (hs : outs is ρ = some os) : outs (i :: is) ρ = some (t :: os) := by
  unfold outs at hs ⊢
  rw [List.mapM_cons, jet h]
  show ((is.mapM fun i => rVar i ρ).bind _) = _
  rw [hs]; rfl
theorem eop_at {xs : List T} {k : Int} {x : T} (h : atI xs k = some x) : fIx [.tup xs, .int k] = some x := h
theorem eol_at {o : Bool} {xs : List T} {k : Int} {x : T} (h : atI xs k = some x) : fIx [.lst o xs, .int k] = some x := h
theorem eoc_at {xs : List T} {k : Int} {x : T} (h : atI xs k = some x) : fIx [.con xs, .int k] = some x := h
theorem ai_0 {α : Type} {x0 : α} {r : List α} : atI (x0 :: r) 0 = some x0 := by
  unfold atI ixN
  rw [if_pos (by omega), if_pos (by simp only [List.length_cons]; omega)]
  rfl
theorem ai_s {α : Type} {x0 x : α} {r : List α} {k : Int} (k0 : 0 ≤ k) (h : atI r k = some x) : atI (x0 :: r) (k + 1) = some x := by
  unfold atI ixN at h ⊢
  rw [if_pos k0] at h
  rw [if_pos (by omega)]
  by_cases c : k < r.length
  · rw [if_pos c] at h
    rw [if_pos (by simp only [List.length_cons]; omega)]
    show ((x0 :: r)[(k + 1).toNat]?) = _
    rw [show (k + 1).toNat = k.toNat + 1 by omega, List.getElem?_cons_succ]
    exact h
  · rw [if_neg c] at h
    cases h
theorem ai_1 {α : Type} {x0 x1 : α} {r : List α} : atI (x0 :: x1 :: r) 1 = some x1 := ai_s (k := 0) (by omega) ai_0
theorem ai_2 {α : Type} {x0 x1 x2 : α} {r : List α} : atI (x0 :: x1 :: x2 :: r) 2 = some x2 := ai_s (k := 1) (by omega) ai_1
theorem ai_3 {α : Type} {x0 x1 x2 x3 : α} {r : List α} : atI (x0 :: x1 :: x2 :: x3 :: r) 3 = some x3 := ai_s (k := 2) (by omega) ai_2
theorem ai_4 {α : Type} {x0 x1 x2 x3 x4 : α} {r : List α} : atI (x0 :: x1 :: x2 :: x3 :: x4 :: r) 4 = some x4 := ai_s (k := 3) (by omega) ai_3
theorem ai_5 {α : Type} {x0 x1 x2 x3 x4 x5 : α} {r : List α} : atI (x0 :: x1 :: x2 :: x3 :: x4 :: x5 :: r) 5 = some x5 := ai_s (k := 4) (by omega) ai_4
theorem ai_6 {α : Type} {x0 x1 x2 x3 x4 x5 x6 : α} {r : List α} : atI (x0 :: x1 :: x2 :: x3 :: x4 :: x5 :: x6 :: r) 6 = some x6 := ai_s (k := 5) (by omega) ai_5
theorem eo_tp (h : ts.length ≤ 4000) : fTup ts = some (.tup ts) := if_pos h
theorem eo_ls (h : ts.length ≤ 4000) : fLst ts = some (.lst true ts) := if_pos h
theorem eo_ct {i j : Int} : fCat [.int i, .int j] = some (.int (i + j)) := rfl
theorem eo_ctl {o o' : Bool} {xs ys : List T} (h : frs xs = true) (h2 : frs ys = true) (h3 : xs.length + ys.length ≤ 4000) : fCat [.lst o xs, .lst o' ys] = some (.lst true (xs ++ ys)) := by
  have e : fCat [.lst o xs, .lst o' ys] = if (frs xs && frs ys && decide (xs.length + ys.length ≤ sizeLine)) = true then some (.lst true (xs ++ ys)) else none := rfl
  have : (4000 : Nat) ≤ sizeLine := by decide
  rw [e, h, h2, decide_eq_true (by omega)]; rfl
theorem eo_ctt {xs ys : List T} (h : frs xs = true) (h2 : frs ys = true) (h3 : xs.length + ys.length ≤ 4000) : fCat [.tup xs, .tup ys] = some (.tup (xs ++ ys)) := by
  have e : fCat [.tup xs, .tup ys] = if (frs xs && frs ys && decide (xs.length + ys.length ≤ sizeLine)) = true then some (.tup (xs ++ ys)) else none := rfl
  have : (4000 : Nat) ≤ sizeLine := by decide
  rw [e, h, h2, decide_eq_true (by omega)]; rfl
theorem eo_ad {i j : Int} : fAddR [.int i, .int j] = some (.int (i + j)) := rfl
theorem eo_sb {i j : Int} : fSub [.int i, .int j] = some (.int (i - j)) := rfl
theorem eo_ng {i : Int} : fNeg [.int i] = some (.int (-i)) := rfl
theorem eo_lt {i j : Int} : fCmp (fun i j => decide (i < j)) [.int i, .int j] = some (.bl (decide (i < j))) := rfl
theorem eo_le {i j : Int} : fCmp (fun i j => decide (i ≤ j)) [.int i, .int j] = some (.bl (decide (i ≤ j))) := rfl
theorem eo_gt {i j : Int} : fCmp (fun i j => decide (j < i)) [.int i, .int j] = some (.bl (decide (j < i))) := rfl
theorem eo_ge {i j : Int} : fCmp (fun i j => decide (j ≤ i)) [.int i, .int j] = some (.bl (decide (j ≤ i))) := rfl
theorem eo_eqS {a b : Str} : fEq [.str a, .str b] = some (.bl (a == b)) := rfl
theorem eo_neS {a b : Str} : fNe [.str a, .str b] = some (.bl (!(a == b))) := rfl
theorem jlb {a b : Int} : fEq [.int a, .int b] = some (.bl (decide (a = b))) := by
  show some (T.bl (a == b)) = _
  by_cases h : a = b
  · subst h; simp
  · simp [h]
theorem eo_neI {a b : Int} : fNe [.int a, .int b] = some (.bl (decide (a ≠ b))) := by
  show some (T.bl (!(a == b))) = _
  by_cases h : a = b
  · subst h; simp
  · simp [h]
theorem eo_is {a : T} : fIs [a, .non] = some (.bl a.isNon) := rfl
theorem eo_isn {a : T} : jc4 [a, .non] = some (.bl (!a.isNon)) := rfl
theorem eo_int {i : Int} : fInt [.int i] = some (.int i) := rfl
theorem eo_intT : fInt [.bl true] = some (.int 1) := rfl
theorem eo_intF : fInt [.bl false] = some (.int 0) := rfl
theorem eo_intB {c c' : Bool} {i : T} (h : NBo c c') (h2 : fInt [.bl c'] = some i) : fInt [.bl c] = some i := by rw [h.e]; exact h2
theorem eo_mx {i j : Int} : fMax2 [.int i, .int j] = some (.int (if j > i then j else i)) := rfl
theorem eo_mn {i j : Int} : fMin2 [.int i, .int j] = some (.int (if j < i then j else i)) := rfl
theorem eo_md {i j : Int} (h : 0 < j) : fMod [.int i, .int j] = some (.int (i % j)) := if_pos h
theorem eo_dv {i j : Int} (h : 0 < j) (h2 : j < 1073741824) : fDiv [.int i, .int j] = some (.int (i / j)) := if_pos ⟨h, h2⟩
theorem eo_ml {i j : Int} (h1 : -18446744073709551616 < i) (h2 : i < 18446744073709551616) : fMulR [.int i, .int j] = some (.int (i * j)) := if_pos (.inl ⟨h1, h2⟩)
theorem eo_ml' {i j : Int} (h1 : -18446744073709551616 < j) (h2 : j < 18446744073709551616) : fMulR [.int i, .int j] = some (.int (i * j)) := if_pos (.inr ⟨h1, h2⟩)
theorem eo_ap {xs : List T} {v : T} (h : xs.length < 4000) : jde (.lst true xs) [v] = some (.non, .lst true (xs ++ [v])) := if_pos h
theorem s62 {i : Int} (h1 : -4611686018427387904 ≤ i) (h2 : i < 4611686018427387904) : small62 i = true := by
  unfold small62
  rw [Bool.and_eq_true, decide_eq_true_eq, decide_eq_true_eq]
  exact ⟨h1, h2⟩
end
end Q
namespace Q
open PySem PySem.Spec PyProof.Rows L2
theorem jdm (x : Str) (i : Int) : fIx [.str x, .int i] = if x.length ≤ sizeLine then (atI x.cps.toList i).map (fun c => .str ⟨#[c]⟩) else none := rfl
theorem jdx (xs : List T) (i : Int) : fIx [.tup xs, .int i] = atI xs i := rfl
theorem jdy (xs : List T) (i : Int) : fIx [.con xs, .int i] = atI xs i := rfl
theorem jdz (o : Bool) (xs : List T) (i : Int) : fIx [.lst o xs, .int i] = atI xs i := rfl
theorem jd0 (o tk : Bool) (ks vs : List T) (k : T) : fIx [.dic o tk ks vs, k] = if keyOk tk k = true then dGet ks vs k else none := rfl
theorem jby (x : Str) : fLen [.str x] = if x.length ≤ sizeLine then some (.int x.length) else none := rfl
theorem jbz (xs : List T) : fLen [.tup xs] = some (.int xs.length) := rfl
theorem jb7 (xs : List T) : fLen [.con xs] = some (.int xs.length) := rfl
theorem jb0 (o : Bool) (xs : List T) : fLen [.lst o xs] = some (.int xs.length) := rfl
theorem jb8 (o tk : Bool) (ks vs : List T) : fLen [.dic o tk ks vs] = some (.int ks.length) := rfl
theorem jb9 (a b : Str) : fIn [.str a, .str b] = some (.bl (!(Builtin.Str.occurrences b a 0 b.length 1).isEmpty)) := rfl
theorem jca (a : T) (xs : List T) : fIn [a, .tup xs] = if (a.eqOk && (T.tup xs).eqOk) = true then some (.bl (xs.any fun y => y.eqv a)) else none := by cases a <;> rfl
theorem jcb (a : T) (xs : List T) : fIn [a, .con xs] = if (a.eqOk && (T.tup xs).eqOk) = true then some (.bl (xs.any fun y => y.eqv a)) else none := by cases a <;> rfl
theorem jb4 (a : T) (o : Bool) (xs : List T) : fIn [a, .lst o xs] = if (a.eqOk && (T.lst o xs).eqOk) = true then some (.bl (xs.any fun y => y.eqv a)) else none := by cases a <;> rfl
theorem jcc (a : T) (o tk : Bool) (ks vs : List T) : fIn [a, .dic o tk ks vs] = if keyOk tk a = true then some (.bl (dGet ks vs a).isSome) else none := by cases a <;> rfl
theorem ja0 (v : T) (xs : List T) (i : Int) : put2 v (.lst true xs) (.int i) = (ixN xs.length i).map fun j => .lst true (xs.set j v) := rfl
theorem ja1 (v : T) (tk : Bool) (ks vs : List T) (k : T) : put2 v (.dic true tk ks vs) k = if (keyOk tk k && decide (ks.length < 4000)) = true then (match posOf ks k with
    | some j => some (.dic true tk ks (vs.set j v))
    | none => some (.dic true tk (ks ++ [k]) (vs ++ [v]))) else none := rfl
theorem jcd (xs : List T) (i : Int) : at1 (.tup xs) (.int i) = atI xs i := rfl
theorem jce (xs : List T) (i : Int) : at1 (.lst true xs) (.int i) = atI xs i := rfl
theorem jcf (tk : Bool) (ks vs : List T) (k : T) : at1 (.dic true tk ks vs) k = if keyOk tk k = true then (posOf ks k).bind fun j => vs[j]? else none := rfl
theorem ja2 (u : T) (xs : List T) (i : Int) : put1 u (.tup xs) (.int i) = (ixN xs.length i).map fun j => .tup (xs.set j u) := rfl
theorem ja3 (u : T) (xs : List T) (i : Int) : put1 u (.lst true xs) (.int i) = (ixN xs.length i).map fun j => .lst true (xs.set j u) := rfl
theorem ja4 (u : T) (tk : Bool) (ks vs : List T) (k : T) : put1 u (.dic true tk ks vs) k = (posOf ks k).map fun j => .dic true tk ks (vs.set j u) := rfl
theorem jbu (z : Str) (lo hi : Option Int) : fCut (.str z) lo hi = if z.length ≤ sizeLine then some (.str (Txt.slice z lo hi)) else none := rfl
theorem jcg (xs : List T) (lo hi : Option Int) : fCut (.tup xs) lo hi = if frs xs = true then some (.tup (cutT xs lo hi)) else none := rfl
theorem jb1 (o : Bool) (xs : List T) (lo hi : Option Int) : fCut (.lst o xs) lo hi = if frs xs = true then some (.lst true (cutT xs lo hi)) else none := rfl
theorem ja5 (xs : List T) : fList [.tup xs] = if frs xs = true then some (.lst true xs) else none := rfl
theorem ja6 (o : Bool) (xs : List T) : fList [.lst o xs] = if frs xs = true then some (.lst true xs) else none := rfl
theorem jai (xs : List T) : fTuple [.tup xs] = if frs xs = true then some (.tup xs) else none := rfl
theorem jaj (o : Bool) (xs : List T) : fTuple [.lst o xs] = if frs xs = true then some (.tup xs) else none := rfl
theorem jch (xs : List T) : fRev [.tup xs] = if frs xs = true then some (.tup xs.reverse) else none := rfl
theorem jci (o : Bool) (xs : List T) : fRev [.lst o xs] = if frs xs = true then some (.lst true xs.reverse) else none := rfl
theorem jcj (xs : List T) (v : T) : jde (.lst true xs) [v] = if xs.length < 4000 then some (.non, .lst true (xs ++ [v])) else none := rfl
theorem jak (xs : List T) : jeu (.tup xs) = if frs xs = true then some xs else none := rfl
theorem jal (xs : List T) : jeu (.con xs) = if frs xs = true then some xs else none := rfl
theorem jam (xs : List T) : jeu (.lst false xs) = if frs xs = true then some xs else none := rfl
theorem jck (o o' : Bool) (xs ys : List T) : fCat [.lst o xs, .lst o' ys] = if (frs xs && frs ys && decide (xs.length + ys.length ≤ sizeLine)) = true then some (.lst true (xs ++ ys)) else none := rfl
theorem jcl (xs ys : List T) : fCat [.tup xs, .tup ys] = if (frs xs && frs ys && decide (xs.length + ys.length ≤ sizeLine)) = true then some (.tup (xs ++ ys)) else none := rfl
theorem jcm (i j : Int) : fCat [.int i, .int j] = some (.int (i + j)) := rfl
theorem jcn (x y : Str) : fCat [.str x, .str y] = if x.length + y.length ≤ sizeLine then some (.str (x ++ y)) else none := rfl
theorem ja7 : T.isNon .non = true := rfl
theorem jco (b : Bool) : T.isNon (.bl b) = false := rfl
theorem ja8 (i : Int) : T.isNon (.int i) = false := rfl
theorem ja9 (x : Str) : T.isNon (.str x) = false := rfl
theorem jba (xs : List T) : T.isNon (.tup xs) = false := rfl
theorem jbb (o : Bool) (xs : List T) : T.isNon (.lst o xs) = false := rfl
theorem jb5 {i j : Int} (h1 : -18446744073709551616 < i) (h2 : i < 18446744073709551616) : fMulR [.int i, .int j] = some (.int (i * j)) := if_pos (.inl ⟨h1, h2⟩)
theorem jau {i j : Int} (h1 : -18446744073709551616 < j) (h2 : j < 18446744073709551616) : fMulR [.int i, .int j] = some (.int (i * j)) := if_pos (.inr ⟨h1, h2⟩)
theorem jcp {i j : Int} (h1 : 0 < j) (h2 : j < 1073741824) : fDiv [.int i, .int j] = some (.int (i / j)) := if_pos ⟨h1, h2⟩
theorem jcq {i j : Int} (h1 : 0 < j) : fMod [.int i, .int j] = some (.int (i % j)) := if_pos h1
theorem jcr {i j : Int} (h1 : 0 ≤ j) (h2 : j ≤ 1000000) (h3 : i.natAbs < 18446744073709551616) : fPow [.int i, .int j] = some (.int (i ^ j.toNat)) := if_pos ⟨h1, h2, h3⟩
theorem jaf {i : Int} (h1 : -4611686018427387904 ≤ i) (h2 : i < 4611686018427387904) : small62 i = true := by
  unfold small62
  rw [Bool.and_eq_true, decide_eq_true_eq, decide_eq_true_eq]
  exact ⟨h1, h2⟩
structure Pen where
  cells : List Int
  pos : Int
  left : Int
def Pen.t (p : Pen) : T := .dic true false [.str "cells", .str "at", .str "left"] [.lst false (p.cells.map .int), .int p.pos, .int p.left]
structure Pen.Ok (p : Pen) : Prop where
  len : p.cells.length ≤ 63
  pos0 : 0 ≤ p.pos
  left0 : 0 ≤ p.left
theorem jkk (o : Bool) (ts : List T) : (T.lst o ts).eqv (.lst true []) = ts.isEmpty := by cases ts <;> simp [T.eqv, eqvs]
theorem jkl : ∀ ns : List Int, pls (ns.map .int) = true
  | [] => rfl
  | n :: ns => by rw [List.map_cons, pls, jkl ns]; rfl
theorem jil : ∀ ns : List Int, deps (ns.map .int) = 0
  | [] => rfl
  | n :: ns => by rw [List.map_cons, deps, jil ns]; rfl
theorem jg7 : ∀ ns : List Int, frs (ns.map .int) = true
  | [] => rfl
  | n :: ns => by rw [List.map_cons, frs, jg7 ns]; rfl
theorem jl5 : ∀ ns : List Int, fzs (ns.map .int) = ns.map .int
  | [] => rfl
  | n :: ns => by rw [List.map_cons, fzs, jl5 ns]; rfl
theorem atI_ints {ns : List Int} {i : Int} (h0 : 0 ≤ i) (h : i < ns.length) : ∃ x, atI (ns.map T.int) i = some (.int x) := by
  unfold atI ixN
  rw [if_pos h0, if_pos (by simpa using h)]
  have : i.toNat < ns.length := by omega
  exact ⟨ns[i.toNat], by simp [this]⟩
theorem jbc {i : Nat} {t : T} {ρ : Env} : gSlot i t ρ = some (ρ.set i (some t)) := rfl
theorem jbd {n : Nat} {gs : List T → Env → Option Env} {t : T} {ρ : Env} : gTree n gs t ρ = (match t with | .tup ts => if ts.length = n then gs ts ρ else none | _ => none) := rfl
theorem jbe {ts : List T} {ρ : Env} : gsNil ts ρ = (match ts with | [] => some ρ | _ => none) := rfl
theorem jan {g : T → Env → Option Env} {gs : List T → Env → Option Env} {ts : List T} {ρ : Env} : jbl g gs ts ρ = (match ts with | t :: r => (g t ρ).bind (gs r) | [] => none) := rfl
theorem at_0 {α : Type} {x0 : α} {r : List α} : atI (x0 :: r) 0 = some x0 := by
  unfold atI ixN
  rw [if_pos (by omega), if_pos (by simp only [List.length_cons]; omega)]
  rfl
theorem at_1 {α : Type} {x0 x1 : α} {r : List α} : atI (x0 :: x1 :: r) 1 = some x1 := by
  unfold atI ixN
  rw [if_pos (by omega), if_pos (by simp only [List.length_cons]; omega)]
  rfl
theorem at_2 {α : Type} {x0 x1 x2 : α} {r : List α} : atI (x0 :: x1 :: x2 :: r) 2 = some x2 := by
  unfold atI ixN
  rw [if_pos (by omega), if_pos (by simp only [List.length_cons]; omega)]
  rfl
theorem at_3 {α : Type} {x0 x1 x2 x3 : α} {r : List α} : atI (x0 :: x1 :: x2 :: x3 :: r) 3 = some x3 := by
  unfold atI ixN
  rw [if_pos (by omega), if_pos (by simp only [List.length_cons]; omega)]
  rfl
theorem at_4 {α : Type} {x0 x1 x2 x3 x4 : α} {r : List α} : atI (x0 :: x1 :: x2 :: x3 :: x4 :: r) 4 = some x4 := by
  unfold atI ixN
  rw [if_pos (by omega), if_pos (by simp only [List.length_cons]; omega)]
  rfl
theorem at_5 {α : Type} {x0 x1 x2 x3 x4 x5 : α} {r : List α} : atI (x0 :: x1 :: x2 :: x3 :: x4 :: x5 :: r) 5 = some x5 := by
  unfold atI ixN
  rw [if_pos (by omega), if_pos (by simp only [List.length_cons]; omega)]
  rfl
theorem at_6 {α : Type} {x0 x1 x2 x3 x4 x5 x6 : α} {r : List α} : atI (x0 :: x1 :: x2 :: x3 :: x4 :: x5 :: x6 :: r) 6 = some x6 := by
  unfold atI ixN
  rw [if_pos (by omega), if_pos (by simp only [List.length_cons]; omega)]
  rfl
theorem at_7 {α : Type} {x0 x1 x2 x3 x4 x5 x6 x7 : α} {r : List α} : atI (x0 :: x1 :: x2 :: x3 :: x4 :: x5 :: x6 :: x7 :: r) 7 = some x7 := by
  unfold atI ixN
  rw [if_pos (by omega), if_pos (by simp only [List.length_cons]; omega)]
  rfl
theorem at_8 {α : Type} {x0 x1 x2 x3 x4 x5 x6 x7 x8 : α} {r : List α} : atI (x0 :: x1 :: x2 :: x3 :: x4 :: x5 :: x6 :: x7 :: x8 :: r) 8 = some x8 := by
  unfold atI ixN
  rw [if_pos (by omega), if_pos (by simp only [List.length_cons]; omega)]
  rfl
theorem at_9 {α : Type} {x0 x1 x2 x3 x4 x5 x6 x7 x8 x9 : α} {r : List α} : atI (x0 :: x1 :: x2 :: x3 :: x4 :: x5 :: x6 :: x7 :: x8 :: x9 :: r) 9 = some x9 := by
  unfold atI ixN
  rw [if_pos (by omega), if_pos (by simp only [List.length_cons]; omega)]
  rfl
theorem jhm {a b : Ds} {ρ ρ1 : Env} {f : Fl} (h : a ρ = .nx ρ1) (h2 : b ρ1 = f) : sSeq a b ρ = f := by
  unfold sSeq
  rw [h]
  exact h2
theorem jmu {is : List Nat} {a : Ds} {ρ ρ1 ρ2 : Env} (h : a ρ = .nx ρ1) (e : wipeE ρ1 is = ρ2) : jar is a ρ = .nx ρ2 := by
  unfold jar
  rw [h]
  exact congrArg Fl.nx e
theorem jfk {g : T → Env → Option Env} {b : Ds} {I : Nat → Env → Prop} : ∀ {ts : List T} {n : Nat} {ρ : Env}, (∀ i ρ t, n ≤ i → ts[i - n]? = some t → I i ρ → ∃ ρ1 ρ2, g t ρ = some ρ1 ∧ (b ρ1 = .nx ρ2 ∨ b ρ1 = .ct ρ2) ∧ I (i + 1) ρ2) → I n ρ → ∃ ρ', fLoop g b ts ρ = .nx ρ' ∧ I (n + ts.length) ρ'
  | [], n, ρ, _, h => ⟨ρ, rfl, h⟩
  | t :: ts, n, ρ, st, h => by
    obtain ⟨ρ1, ρ2, h1, h2, h3⟩ := st n ρ t (Nat.le_refl _) (by simp) h
    obtain ⟨ρ', k1, k2⟩ := jfk (ts := ts) (n := n + 1) (ρ := ρ2) (fun i ρ u hi e => st i ρ u (by omega) (by
      rw [show i - n = (i - (n + 1)) + 1 by omega]; simpa using e)) h3
    refine ⟨ρ', ?_, by rw [List.length_cons]; have : n + (ts.length + 1) = n + 1 + ts.length := by omega
                       rw [this]; exact k2⟩
    unfold fLoop
    rw [h1]
    rcases h2 with h2 | h2 <;> (simp only [h2]; exact k1)
theorem jhn {own : List Nat} {g : T → Env → Option Env} {t : Db} {d : De} {I : Nat → List T → Env → Prop} : ∀ {xs acc : List T} {n : Nat} {ρ : Env},
    (∀ i acc ρ x, n ≤ i → xs[i - n]? = some x → I i acc ρ → ∃ ρ1 ρ2, g x (wipeE ρ own) = some ρ1 ∧ ((t ρ1 = .ok (false, ρ2) ∧ I (i + 1) acc (wipeE ρ2 own)) ∨ (t ρ1 = .ok (true, ρ2) ∧ acc.length < sizeLine ∧ ∃ u ρ3, d ρ2 = .ok (u, ρ3) ∧ I (i + 1) (acc ++ [u]) (wipeE ρ3 own)))) →
    I n acc ρ → ∃ acc' ρ', cLoop own g t d xs acc ρ = .ok (.lst true acc', ρ') ∧ I (n + xs.length) acc' ρ'
  | [], acc, n, ρ, _, h => ⟨acc, ρ, rfl, h⟩
  | x :: xs, acc, n, ρ, st, h => by
    obtain ⟨ρ1, ρ2, h1, h2⟩ := st n acc ρ x (Nat.le_refl _) (by simp) h
    have nx : ∀ {acc2 : List T} {ρ3 : Env}, I (n + 1) acc2 ρ3 → ∃ acc' ρ', cLoop own g t d xs acc2 ρ3 = .ok (.lst true acc', ρ') ∧ I (n + (x :: xs).length) acc' ρ' := fun h3 => by
      obtain ⟨a', ρ', k1, k2⟩ := jhn (xs := xs) (n := n + 1) (fun i acc ρ u hi e => st i acc ρ u (by omega) (by
        rw [show i - n = (i - (n + 1)) + 1 by omega]; simpa using e)) h3
      refine ⟨a', ρ', k1, ?_⟩
      rw [List.length_cons]
      have : n + (xs.length + 1) = n + 1 + xs.length := by omega
      rw [this]; exact k2
    rcases h2 with ⟨e, h3⟩ | ⟨e, hl, u, ρ3, e3, h3⟩
    · obtain ⟨a', ρ', k1, k2⟩ := nx h3
      refine ⟨a', ρ', ?_, k2⟩
      unfold cLoop
      simp only [h1, e]
      exact k1
    · obtain ⟨a', ρ', k1, k2⟩ := nx h3
      refine ⟨a', ρ', ?_, k2⟩
      unfold cLoop
      simp only [h1, e, e3, hl, if_true]
      exact k1
theorem jgb {own : List Nat} {g : T → Env → Option Env} {d : De} {f : T → T} {ρ : Env} {xs : List T} (hw : wipeE ρ own = ρ) (hl : xs.length ≤ 4000) (st : ∀ x ∈ xs, ∃ ρ1 ρ2, g x ρ = some ρ1 ∧ d ρ1 = .ok (f x, ρ2) ∧ wipeE ρ2 own = ρ) :
    cLoop own g bYes d xs [] ρ = .ok (.lst true (xs.map f), ρ) := by
  obtain ⟨a, ρ', h1, h2, h3⟩ := jhn (own := own) (g := g) (t := bYes) (d := d) (xs := xs) (acc := []) (n := 0) (ρ := ρ) (I := fun i acc ρ' => ρ' = ρ ∧ acc = (xs.take i).map f) (fun i acc ρ' x _ e ⟨h1, h2⟩ => by
    subst h1
    have hm : x ∈ xs := List.mem_of_getElem? (by simpa using e)
    obtain ⟨ρ1, ρ2, k1, k2, k3⟩ := st x hm
    refine ⟨ρ1, ρ1, by rw [hw]; exact k1, .inr ⟨rfl, ?_, f x, ρ2, k2, k3, ?_⟩⟩
    · rw [h2, List.length_map, List.length_take]
      exact Nat.lt_of_le_of_lt (Nat.min_le_right _ _) (Nat.lt_of_le_of_lt hl (by decide))
    · rw [h2, List.take_add_one, show xs[i]? = some x by simpa using e]
      simp) ⟨rfl, rfl⟩
  rw [h1, h2, h3]
  simp
end Q
namespace Q
open PySem PySem.Spec PyProof.Rows L2
def jnb (t : T) : Bool := match fIn [t, .str "abcdefghijklmnopqrstuvwxyz"] with
  | some (.bl b) => b
  | _ => false
def jjt : T → Bool
  | .str z => decide (1 ≤ z.length) && decide (z.length ≤ 8) && (jge z).all jnb
  | _ => false
def low (c : Nat) : Prop := 97 ≤ c ∧ c ≤ 122
def nm (l : List Nat) : Prop := 1 ≤ l.length ∧ l.length ≤ 8 ∧ ∀ c ∈ l, low c
theorem small_low {c : Nat} (h : low c) : jnb (.str ⟨#[c]⟩) = true := by
  have k : ∀ k : Fin 26, jnb (.str ⟨#[97 + k.val]⟩) = true := by decide +kernel
  obtain ⟨h1, h2⟩ := h
  have := k ⟨c - 97, by omega⟩
  simp only at this
  rw [show 97 + (c - 97) = c by omega] at this
  exact this
theorem nm_name {l : List Nat} (h : nm l) : jjt (.str (SX.S l)) = true := by
  obtain ⟨h1, h2, h3⟩ := h
  show (decide (1 ≤ (SX.S l).length) && decide ((SX.S l).length ≤ 8) && (jge (SX.S l)).all jnb) = true
  rw [SX.S_len, Bool.and_eq_true, Bool.and_eq_true, decide_eq_true_eq, decide_eq_true_eq]
  refine ⟨⟨h1, h2⟩, ?_⟩
  unfold jge
  rw [List.all_map, List.all_eq_true]
  intro c hc
  exact small_low (h3 c hc)
theorem abc_ix {i : Int} (h0 : 0 ≤ i) (h1 : i < 26) : atI (Str.cps "abcdefghijklmnopqrstuvwxyz").toList i = some (97 + i.toNat) := by
  have e : (Str.cps "abcdefghijklmnopqrstuvwxyz").toList.length = 26 := by decide +kernel
  have k : ∀ k : Fin 26, (Str.cps "abcdefghijklmnopqrstuvwxyz").toList[k.val]? = some (97 + k.val) := by decide +kernel
  unfold atI ixN
  rw [e, if_pos h0, if_pos (by omega)]
  exact k ⟨i.toNat, by omega⟩
def bw (t : Nat) (r : Nat) : List Nat := if h : r = 0 then [] else bw t ((r - 1) / 2) ++ [97 + (t + 9 * (r % 2)) % 26]
termination_by r
decreasing_by omega
theorem bw0 (t : Nat) : bw t 0 = [] := by rw [bw]; rfl
theorem bwS (t : Nat) {r : Nat} (h : r ≠ 0) : bw t r = bw t ((r - 1) / 2) ++ [97 + (t + 9 * (r % 2)) % 26] := by rw [bw, dif_neg h]
theorem bw_low (t : Nat) : ∀ (r : Nat) (c : Nat), c ∈ bw t r → low c := by
  intro r
  induction r using Nat.strongRecOn with
  | _ r ih =>
    intro c hc
    by_cases h : r = 0
    · subst h; rw [bw0] at hc; cases hc
    · rw [bwS t h] at hc
      rcases List.mem_append.mp hc with z | z
      · exact ih _ (by omega) c z
      · rw [List.mem_singleton] at z
        subst z
        exact ⟨by omega, by omega⟩
theorem bw_len (t : Nat) : ∀ (m r : Nat), r + 2 ≤ 2 ^ (m + 1) → (bw t r).length ≤ m
  | 0, r, h => by
    have : r = 0 := by omega
    subst this; rw [bw0]; exact Nat.le_refl _
  | m + 1, r, h => by
    by_cases z : r = 0
    · subst z; rw [bw0]; exact Nat.zero_le _
    · rw [bwS t z, List.length_append]
      have := bw_len t m ((r - 1) / 2) (by
        have e : 2 ^ (m + 1 + 1) = 2 * 2 ^ (m + 1) := by rw [Nat.pow_succ]; omega
        omega)
      simp only [List.length_cons, List.length_nil]
      omega
theorem bw_inj (t : Nat) : ∀ (r s : Nat), bw t r = bw t s → r = s := by
  intro r
  induction r using Nat.strongRecOn with
  | _ r ih =>
    intro s e
    by_cases h : r = 0
    · by_cases k : s = 0
      · omega
      · subst h; rw [bw0, bwS t k] at e
        have := congrArg List.length e
        simp at this
    · by_cases k : s = 0
      · subst k; rw [bw0, bwS t h] at e
        have := congrArg List.length e
        simp at this
      · rw [bwS t h, bwS t k] at e
        obtain ⟨e1, e2⟩ := List.append_inj' e rfl
        have e3 := ih _ (by omega) _ e1
        simp only [List.cons.injEq, and_true] at e2
        have : r % 2 = s % 2 := by omega
        omega
def nmAt (way turn : Nat) (base : List Nat) (spot k : Nat) : List Nat := if way = 1 then bw turn (k + 1) else base.take spot ++ [97 + (turn + 7 * k) % 26, 97 + (turn + k / 26) % 26] ++ base.drop spot
theorem nmAt_nm {way turn spot k : Nat} {base : List Nat} (hb : ∀ c ∈ base, low c) (hl : base.length ≤ 6) (hk : k < 500) : nm (nmAt way turn base spot k) := by
  unfold nmAt
  split
  · refine ⟨?_, bw_len turn 8 (k + 1) (by omega), bw_low turn _⟩
    rw [bwS turn (by omega)]; simp
  · refine ⟨by simp; omega, by simp; omega, fun c hc => ?_⟩
    rcases List.mem_append.mp hc with z | z
    · rcases List.mem_append.mp z with z | z
      · exact hb c (List.mem_of_mem_take z)
      · simp only [List.mem_cons, List.not_mem_nil, or_false] at z
        rcases z with z | z <;> (subst z; exact ⟨by omega, by omega⟩)
    · exact hb c (List.mem_of_mem_drop z)
theorem nmAt_inj {way turn spot k j : Nat} {base : List Nat} (hk : k < 500) (hj : j < 500) (e : nmAt way turn base spot k = nmAt way turn base spot j) : k = j := by
  unfold nmAt at e
  split at e
  · have := bw_inj turn _ _ e
    omega
  · have e1 := List.append_cancel_right e
    have e2 := List.append_cancel_left e1
    simp only [List.cons.injEq, and_true] at e2
    obtain ⟨h1, h2⟩ := e2
    have a : k % 26 = j % 26 := by omega
    have b : k / 26 = j / 26 := by omega
    omega
def nmT (ls : List (List Nat)) : List T := ls.map fun l => .str (SX.S l)
theorem jd1 (ls : List (List Nat)) : frs (nmT ls) = true := by
  rw [jjg, List.all_eq_true]
  intro t ht
  obtain ⟨l, _, rfl⟩ := List.mem_map.mp ht
  rfl
theorem jju : ∀ cs : List Nat, TL.joinL [] (cs.map fun c => [c]) = cs
  | [] => rfl
  | [c] => rfl
  | c :: d :: r => by
    have := jju (d :: r)
    simp only [List.map_cons] at this ⊢
    show [c] ++ ([] ++ TL.joinL [] ([d] :: r.map fun c => [c])) = _
    rw [this]; rfl
def signT (cs : List Nat) : List T := cs.map fun c => .str ⟨#[c]⟩
theorem ji7 : ∀ cs : List Nat, jjd (signT cs) = some ((cs.map fun c => [c]).map SX.S)
  | [] => rfl
  | c :: r => by
    show (jjd (signT r)).map (_ :: ·) = _
    rw [ji7 r]; rfl
theorem joh {o : Bool} {cs : List Nat} (h : cs.length ≤ 4000) : fJoin [.str "", .lst o (signT cs)] = some (.str (SX.S cs)) := by
  unfold fJoin
  simp only [ji7]
  have e : (Str.ofString "") = SX.S [] := rfl
  have l : ((((cs.map fun c => [c]).map SX.S).map (·.length))).sum = cs.length := by
    clear h
    induction cs with
    | nil => rfl
    | cons c r ih => simp only [List.map_cons, List.sum_cons, ih, SX.S_len, List.length_cons, List.length_nil]; omega
  rw [if_pos (by rw [l, show (Str.ofString "").length = 0 from by decide]; omega), e, SX.join_S, jju]
def pT (n : Int) (p : Pen) : Prop := p.Ok ∧ p.pos ≤ n
end Q
namespace Q
open PySem PySem.Spec PyProof.Rows L2
def mixO (cell a : Int) : Int := (cell % 2147483587 + 45007 * a + 11) ^ 3 % 2147483629
def mixR (one a m : Int) : Int := (one + 1213 * a * a + 3) ^ 5 % 2147483543 * (one % 64007 + 1) % 2147483579 / 64 % m
theorem abs_nn (x : Int) : 0 ≤ (if x < 0 then -x else x) := by split <;> omega
theorem take_ok (p : Pen) (h : p.Ok) (hp : p.pos < 2 ^ 26) (m : Int) (h1 : 0 < m) (h2 : m < 1073741824) : ∃ (r : Int) (p' : Pen), jab [p.t, .int m] = .ok (.int r) [p'.t] ∧ 0 ≤ r ∧ r < m ∧ p'.Ok ∧ p'.pos ≤ p.pos + 1 ∧ p.pos ≤ p'.pos := by
  obtain ⟨cs, at_, left⟩ := p
  obtain ⟨k1, k2, k3⟩ := h
  simp only at k1 k2 k3 hp
  have hm : m < 1073741824 := by omega
  have hA : -18446744073709551616 < at_ := by omega
  have hB : at_ < 18446744073709551616 := by omega
  by_cases c : 0 < left
  · refine ⟨left % m, ⟨cs, at_, left / m⟩, ?_, Int.emod_nonneg _ (by omega), Int.emod_lt_of_pos _ h1, ⟨k1, k2, Int.ediv_nonneg k3 (by omega)⟩, by simp only; omega, by simp only; omega⟩
    simp +decide [jab, je1, Pen.t, c, h1, hm, fRun, sSeq, sIf, rTest, bTest, bNot, bAnd, bOr, rOp1, rOp2, rOp3, rOpN, rVar, rC, jdm, jdx, jdy, jdz, jd0, dGet, keyOk, T.leaf, T.tkey, T.beq, beqs, fCmp, int2, _root_.Q.R.fl, _root_.Q.R.bind, sSet, sAsg, sExpr, sRet, sRetN, sNil, dOf, fAddR, fSub, jb5, jau, jcp, jcq, jcr, fNeg, fAbs, fInt, fMax2, fMin2, jby, jbz, jb7, jb0, jb8, fEq, fNe, fIs, jc4, ja7, jco, ja8, ja9, jba, jbb, T.eqOk, T.pl, pls, T.dep, deps, T.eqv, eqvs, gPut, gPut0, jbc, jbd, jan, jbe, pName, pIx, upPut, pathT, ja0, ja1, putP, ja2, ja3, ja4, jcd, jce, jcf, posOf, outs, T.fr, frs, T.fz, fzs, dFz, dVar, dMove, vOp, vOp1, vOp2, bOp, dCons, dNil, fTup, fLst, fRep, jck, jcl, jcm, jcn, fro, dNot, dAnd, dOr, jcs, dDisp, dNewD, keyT, jdj, jbm, bndOf, jbu, jcg, jb1, ja5, ja6, jai, jaj, fIsi, fIsi2, T.noIns, T.isi, dIx0, noEx, dIno, dCall, jah, sFor, iSeq, jat, jbo, iStrT, jak, jal, jam, jaf, dComp, cLoop, bYes, wipeE, jar, jb9, jca, jcb, jb4, jcc, fNot, fJoin, jdu, dMeth, jdv, jcy, jdk, atK, T.isO, jch, jci, fKin, fKix, jbp, jcj, at_0, at_1, at_2, at_3, at_4, at_5, at_6, at_7, at_8, at_9, jdl, fOrd, sFrz]
  · -- a new cell
    have hl : left = 0 := by omega
    subst hl
    have q1 : 0 ≤ 1213 * at_ * at_ := Int.mul_nonneg (by omega) k2
    have q2 : 1213 * at_ * at_ ≤ 1213 * 67108864 * 67108864 := Int.mul_le_mul (by omega) (by omega) k2 (by omega)
    have P1 : ∀ cell : Int, (cell % 2147483587 + 45007 * at_ + 11).natAbs < 18446744073709551616 := fun cell => by omega
    have P2 : ∀ x : Int, (x % 2147483629 + 1213 * at_ * at_ + 3).natAbs < 18446744073709551616 := fun x => by omega
    have P3 : ∀ x : Int, -18446744073709551616 < x % 64007 + 1 ∧ x % 64007 + 1 < 18446744073709551616 := fun x => by omega
    have e5 : ∀ cell : Int, 0 ≤ mixR (mixO cell at_) at_ m ∧ mixR (mixO cell at_) at_ m < m := fun cell => ⟨Int.emod_nonneg _ (by omega), Int.emod_lt_of_pos _ h1⟩
    by_cases e : cs = []
    · subst e
      refine ⟨mixR (mixO (70207 * at_ * at_ + 131 * at_ + 29) at_) at_ m, ⟨[], at_ + 1, 0⟩, ?_, (e5 _).1, (e5 _).2, ⟨by simp, by simp only; omega, by simp⟩, by simp, by simp only; omega⟩
      simp +decide [jab, je1, Pen.t, jkk, hA, hB, h1, P1, P2, P3, mixO, mixR, show ¬ at_ < 0 by omega, fRun, sSeq, sIf, rTest, bTest, bNot, bAnd, bOr, rOp1, rOp2, rOp3, rOpN, rVar, rC, jdm, jdx, jdy, jdz, jd0, dGet, keyOk, T.leaf, T.tkey, T.beq, beqs, fCmp, int2, _root_.Q.R.fl, _root_.Q.R.bind, sSet, sAsg, sExpr, sRet, sRetN, sNil, dOf, fAddR, fSub, jb5, jau, jcp, jcq, jcr, fNeg, fAbs, fInt, fMax2, fMin2, jby, jbz, jb7, jb0, jb8, fEq, fNe, fIs, jc4, ja7, jco, ja8, ja9, jba, jbb, T.eqOk, T.pl, pls, T.dep, deps, T.eqv, eqvs, gPut, gPut0, jbc, jbd, jan, jbe, pName, pIx, upPut, pathT, ja0, ja1, putP, ja2, ja3, ja4, jcd, jce, jcf, posOf, outs, T.fr, frs, T.fz, fzs, dFz, dVar, dMove, vOp, vOp1, vOp2, bOp, dCons, dNil, fTup, fLst, fRep, jck, jcl, jcm, jcn, fro, dNot, dAnd, dOr, jcs, dDisp, dNewD, keyT, jdj, jbm, bndOf, jbu, jcg, jb1, ja5, ja6, jai, jaj, fIsi, fIsi2, T.noIns, T.isi, dIx0, noEx, dIno, dCall, jah, sFor, iSeq, jat, jbo, iStrT, jak, jal, jam, jaf, dComp, cLoop, bYes, wipeE, jar, jb9, jca, jcb, jb4, jcc, fNot, fJoin, jdu, dMeth, jdv, jcy, jdk, atK, T.isO, jch, jci, fKin, fKix, jbp, jcj, at_0, at_1, at_2, at_3, at_4, at_5, at_6, at_7, at_8, at_9, jdl, fOrd, sFrz]
    · have hlen : 0 < cs.length := List.length_pos_iff.mpr e
      have ix0 : 0 ≤ at_ % (cs.length : Int) := Int.emod_nonneg _ (by omega)
      have ix1 : at_ % (cs.length : Int) < cs.length := Int.emod_lt_of_pos _ (by omega)
      obtain ⟨cell, hc⟩ := atI_ints ix0 ix1
      have hq : eqvs (List.map T.int cs) [] = false := by
        cases cs with
        | nil => exact absurd rfl e
        | cons x r => rfl
      by_cases g : at_ < cs.length ∧ 1000000000000000000 ≤ (if cell < 0 then -cell else cell)
      · refine ⟨(if cell < 0 then -cell else cell) % m, ⟨cs, at_ + 1, (if cell < 0 then -cell else cell) / m⟩, ?_, Int.emod_nonneg _ (by omega), Int.emod_lt_of_pos _ h1, ⟨k1, by simp only; omega, Int.ediv_nonneg (abs_nn cell) (by omega)⟩, by simp, by simp only; omega⟩
        simp +decide [jab, je1, Pen.t, jkk, jkl, jil, jg7, e, hq, hc, g.1, g.2, hlen, hA, hB, h1, hm, fRun, sSeq, sIf, rTest, bTest, bNot, bAnd, bOr, rOp1, rOp2, rOp3, rOpN, rVar, rC, jdm, jdx, jdy, jdz, jd0, dGet, keyOk, T.leaf, T.tkey, T.beq, beqs, fCmp, int2, _root_.Q.R.fl, _root_.Q.R.bind, sSet, sAsg, sExpr, sRet, sRetN, sNil, dOf, fAddR, fSub, jb5, jau, jcp, jcq, jcr, fNeg, fAbs, fInt, fMax2, fMin2, jby, jbz, jb7, jb0, jb8, fEq, fNe, fIs, jc4, ja7, jco, ja8, ja9, jba, jbb, T.eqOk, T.pl, pls, T.dep, deps, T.eqv, eqvs, gPut, gPut0, jbc, jbd, jan, jbe, pName, pIx, upPut, pathT, ja0, ja1, putP, ja2, ja3, ja4, jcd, jce, jcf, posOf, outs, T.fr, frs, T.fz, fzs, dFz, dVar, dMove, vOp, vOp1, vOp2, bOp, dCons, dNil, fTup, fLst, fRep, jck, jcl, jcm, jcn, fro, dNot, dAnd, dOr, jcs, dDisp, dNewD, keyT, jdj, jbm, bndOf, jbu, jcg, jb1, ja5, ja6, jai, jaj, fIsi, fIsi2, T.noIns, T.isi, dIx0, noEx, dIno, dCall, jah, sFor, iSeq, jat, jbo, iStrT, jak, jal, jam, jaf, dComp, cLoop, bYes, wipeE, jar, jb9, jca, jcb, jb4, jcc, fNot, fJoin, jdu, dMeth, jdv, jcy, jdk, atK, T.isO, jch, jci, fKin, fKix, jbp, jcj, at_0, at_1, at_2, at_3, at_4, at_5, at_6, at_7, at_8, at_9, jdl, fOrd, sFrz]
      · refine ⟨mixR (mixO cell at_) at_ m, ⟨cs, at_ + 1, 0⟩, ?_, (e5 _).1, (e5 _).2, ⟨k1, by simp only; omega, by simp⟩, by simp, by simp only; omega⟩
        by_cases g1 : at_ < cs.length
        · have g2 : ¬ 1000000000000000000 ≤ (if cell < 0 then -cell else cell) := fun z => g ⟨g1, z⟩
          simp +decide [jab, je1, Pen.t, jkk, jkl, jil, jg7, e, hq, hc, g1, g2, hlen, hA, hB, h1, P1, P2, P3, mixO, mixR, fRun, sSeq, sIf, rTest, bTest, bNot, bAnd, bOr, rOp1, rOp2, rOp3, rOpN, rVar, rC, jdm, jdx, jdy, jdz, jd0, dGet, keyOk, T.leaf, T.tkey, T.beq, beqs, fCmp, int2, _root_.Q.R.fl, _root_.Q.R.bind, sSet, sAsg, sExpr, sRet, sRetN, sNil, dOf, fAddR, fSub, jb5, jau, jcp, jcq, jcr, fNeg, fAbs, fInt, fMax2, fMin2, jby, jbz, jb7, jb0, jb8, fEq, fNe, fIs, jc4, ja7, jco, ja8, ja9, jba, jbb, T.eqOk, T.pl, pls, T.dep, deps, T.eqv, eqvs, gPut, gPut0, jbc, jbd, jan, jbe, pName, pIx, upPut, pathT, ja0, ja1, putP, ja2, ja3, ja4, jcd, jce, jcf, posOf, outs, T.fr, frs, T.fz, fzs, dFz, dVar, dMove, vOp, vOp1, vOp2, bOp, dCons, dNil, fTup, fLst, fRep, jck, jcl, jcm, jcn, fro, dNot, dAnd, dOr, jcs, dDisp, dNewD, keyT, jdj, jbm, bndOf, jbu, jcg, jb1, ja5, ja6, jai, jaj, fIsi, fIsi2, T.noIns, T.isi, dIx0, noEx, dIno, dCall, jah, sFor, iSeq, jat, jbo, iStrT, jak, jal, jam, jaf, dComp, cLoop, bYes, wipeE, jar, jb9, jca, jcb, jb4, jcc, fNot, fJoin, jdu, dMeth, jdv, jcy, jdk, atK, T.isO, jch, jci, fKin, fKix, jbp, jcj, at_0, at_1, at_2, at_3, at_4, at_5, at_6, at_7, at_8, at_9, jdl, fOrd, sFrz]
        · simp +decide [jab, je1, Pen.t, jkk, jkl, jil, jg7, e, hq, hc, g1, hlen, hA, hB, h1, P1, P2, P3, mixO, mixR, fRun, sSeq, sIf, rTest, bTest, bNot, bAnd, bOr, rOp1, rOp2, rOp3, rOpN, rVar, rC, jdm, jdx, jdy, jdz, jd0, dGet, keyOk, T.leaf, T.tkey, T.beq, beqs, fCmp, int2, _root_.Q.R.fl, _root_.Q.R.bind, sSet, sAsg, sExpr, sRet, sRetN, sNil, dOf, fAddR, fSub, jb5, jau, jcp, jcq, jcr, fNeg, fAbs, fInt, fMax2, fMin2, jby, jbz, jb7, jb0, jb8, fEq, fNe, fIs, jc4, ja7, jco, ja8, ja9, jba, jbb, T.eqOk, T.pl, pls, T.dep, deps, T.eqv, eqvs, gPut, gPut0, jbc, jbd, jan, jbe, pName, pIx, upPut, pathT, ja0, ja1, putP, ja2, ja3, ja4, jcd, jce, jcf, posOf, outs, T.fr, frs, T.fz, fzs, dFz, dVar, dMove, vOp, vOp1, vOp2, bOp, dCons, dNil, fTup, fLst, fRep, jck, jcl, jcm, jcn, fro, dNot, dAnd, dOr, jcs, dDisp, dNewD, keyT, jdj, jbm, bndOf, jbu, jcg, jb1, ja5, ja6, jai, jaj, fIsi, fIsi2, T.noIns, T.isi, dIx0, noEx, dIno, dCall, jah, sFor, iSeq, jat, jbo, iStrT, jak, jal, jam, jaf, dComp, cLoop, bYes, wipeE, jar, jb9, jca, jcb, jb4, jcc, fNot, fJoin, jdu, dMeth, jdv, jcy, jdk, atK, T.isO, jch, jci, fKin, fKix, jbp, jcj, at_0, at_1, at_2, at_3, at_4, at_5, at_6, at_7, at_8, at_9, jdl, fOrd, sFrz]
theorem jfb (p : Pen) {n : Int} (h : pT n p) (hn : n < 67108864) (m : Int) (h1 : 0 < m) (h2 : m < 1073741824) : ∃ (r : Int) (p' : Pen), jab [p.t, .int m] = .ok (.int r) [p'.t] ∧ 0 ≤ r ∧ r < m ∧ pT (n + 1) p' := by
  obtain ⟨r, p', k1, k2, k3, k4, k5, _⟩ := take_ok p h.1 (by have := h.2; omega) m h1 h2
  exact ⟨r, p', k1, k2, k3, k4, by have := h.2; omega⟩
end Q
namespace Q
open PySem PySem.Spec PyProof.Rows L2
theorem jnc (p m way spot found k base : Option T) (R Tn : Int) (a : List Nat) (h0 : 0 ≤ Tn) (hl : a.length ≤ 2000) :
    jez [p, m, some (.str "abcdefghijklmnopqrstuvwxyz"), way, some (.int Tn), base, spot, found, k, some (.str (SX.S a)), some (.int R)] =
      .nx [p, m, some (.str "abcdefghijklmnopqrstuvwxyz"), way, some (.int Tn), base, spot, found, k, some (.str (SX.S ([97 + ((Tn + 9 * (R % 2)) % 26).toNat] ++ a))), some (.int ((R - 1) / 2))] := by
  have e := abc_ix (i := (Tn + 9 * (R % 2)) % 26) (by omega) (by omega)
  have c := SX.S_cat [97 + ((Tn + 9 * (R % 2)) % 26).toNat] a
  have l1 : (⟨#[97 + ((Tn + 9 * (R % 2)) % 26).toNat]⟩ : Str).length = 1 := rfl
  have l2 : 1 + (SX.S a).length ≤ sizeLine := jgd (by rw [SX.S_len]; omega)
  have c' : (⟨#[97 + ((Tn + 9 * (R % 2)) % 26).toNat]⟩ : Str) ++ SX.S a = SX.S ([97 + ((Tn + 9 * (R % 2)) % 26).toNat] ++ a) := c
  simp +decide only [jez]
  refine jhm (ρ1 := [p, m, some (.str "abcdefghijklmnopqrstuvwxyz"), way, some (.int Tn), base, spot, found, k, some (.str (SX.S ([97 + ((Tn + 9 * (R % 2)) % 26).toNat] ++ a))), some (.int R)]) ?_ ?_
  · rw [← c']
    simp +decide [e, l1, l2, fRun, sSeq, sIf, rTest, bTest, bNot, bAnd, bOr, rOp1, rOp2, rOp3, rOpN, rVar, rC, jdm, jdx, jdy, jdz, jd0, dGet, keyOk, T.leaf, T.tkey, T.beq, beqs, fCmp, int2, _root_.Q.R.fl, _root_.Q.R.bind, sSet, sAsg, sExpr, sRet, sRetN, sNil, dOf, fAddR, fSub, jb5, jau, jcp, jcq, jcr, fNeg, fAbs, fInt, fMax2, fMin2, jby, jbz, jb7, jb0, jb8, fEq, fNe, fIs, jc4, ja7, jco, ja8, ja9, jba, jbb, T.eqOk, T.pl, pls, T.dep, deps, T.eqv, eqvs, gPut, gPut0, jbc, jbd, jan, jbe, pName, pIx, upPut, pathT, ja0, ja1, putP, ja2, ja3, ja4, jcd, jce, jcf, posOf, outs, T.fr, frs, T.fz, fzs, dFz, dVar, dMove, vOp, vOp1, vOp2, bOp, dCons, dNil, fTup, fLst, fRep, jck, jcl, jcm, jcn, fro, dNot, dAnd, dOr, jcs, dDisp, dNewD, keyT, jdj, jbm, bndOf, jbu, jcg, jb1, ja5, ja6, jai, jaj, fIsi, fIsi2, T.noIns, T.isi, dIx0, noEx, dIno, dCall, jah, sFor, iSeq, jat, jbo, iStrT, jak, jal, jam, jaf, dComp, cLoop, bYes, wipeE, jar, jb9, jca, jcb, jb4, jcc, fNot, fJoin, jdu, dMeth, jdv, jcy, jdk, atK, T.isO, jch, jci, fKin, fKix, jbp, jcj, at_0, at_1, at_2, at_3, at_4, at_5, at_6, at_7, at_8, at_9, jdl, fOrd, sFrz]
  · simp +decide [fRun, sSeq, sIf, rTest, bTest, bNot, bAnd, bOr, rOp1, rOp2, rOp3, rOpN, rVar, rC, jdm, jdx, jdy, jdz, jd0, dGet, keyOk, T.leaf, T.tkey, T.beq, beqs, fCmp, int2, _root_.Q.R.fl, _root_.Q.R.bind, sSet, sAsg, sExpr, sRet, sRetN, sNil, dOf, fAddR, fSub, jb5, jau, jcp, jcq, jcr, fNeg, fAbs, fInt, fMax2, fMin2, jby, jbz, jb7, jb0, jb8, fEq, fNe, fIs, jc4, ja7, jco, ja8, ja9, jba, jbb, T.eqOk, T.pl, pls, T.dep, deps, T.eqv, eqvs, gPut, gPut0, jbc, jbd, jan, jbe, pName, pIx, upPut, pathT, ja0, ja1, putP, ja2, ja3, ja4, jcd, jce, jcf, posOf, outs, T.fr, frs, T.fz, fzs, dFz, dVar, dMove, vOp, vOp1, vOp2, bOp, dCons, dNil, fTup, fLst, fRep, jck, jcl, jcm, jcn, fro, dNot, dAnd, dOr, jcs, dDisp, dNewD, keyT, jdj, jbm, bndOf, jbu, jcg, jb1, ja5, ja6, jai, jaj, fIsi, fIsi2, T.noIns, T.isi, dIx0, noEx, dIno, dCall, jah, sFor, iSeq, jat, jbo, iStrT, jak, jal, jam, jaf, dComp, cLoop, bYes, wipeE, jar, jb9, jca, jcb, jb4, jcc, fNot, fJoin, jdu, dMeth, jdv, jcy, jdk, atK, T.isO, jch, jci, fKin, fKix, jbp, jcj, at_0, at_1, at_2, at_3, at_4, at_5, at_6, at_7, at_8, at_9, jdl, fOrd, sFrz]
theorem jnd (p m way spot found k base : Option T) (turn : Nat) (Tn : Int) (hT : Tn = turn) : ∀ (r : Nat) (R : Int) (a : List Nat) (n : Nat), R = r → r < n → a.length + r ≤ 2000 →
    wLoop (rTest (rOp2 fGt (rVar 10) (rC (.int 0)))) jez n [p, m, some (.str "abcdefghijklmnopqrstuvwxyz"), way, some (.int Tn), base, spot, found, k, some (.str (SX.S a)), some (.int R)] =
      .nx [p, m, some (.str "abcdefghijklmnopqrstuvwxyz"), way, some (.int Tn), base, spot, found, k, some (.str (SX.S (bw turn r ++ a))), some (.int 0)] := by
  intro r
  induction r using Nat.strongRecOn with
  | _ r ih =>
    intro R a n hR hn hl
    obtain ⟨n, rfl⟩ : ∃ j, n = j + 1 := ⟨n - 1, by omega⟩
    unfold wLoop
    by_cases z : r = 0
    · subst z
      have : R = 0 := by omega
      subst this
      rw [bw0]
      simp +decide [fRun, sSeq, sIf, rTest, bTest, bNot, bAnd, bOr, rOp1, rOp2, rOp3, rOpN, rVar, rC, jdm, jdx, jdy, jdz, jd0, dGet, keyOk, T.leaf, T.tkey, T.beq, beqs, fCmp, int2, _root_.Q.R.fl, _root_.Q.R.bind, sSet, sAsg, sExpr, sRet, sRetN, sNil, dOf, fAddR, fSub, jb5, jau, jcp, jcq, jcr, fNeg, fAbs, fInt, fMax2, fMin2, jby, jbz, jb7, jb0, jb8, fEq, fNe, fIs, jc4, ja7, jco, ja8, ja9, jba, jbb, T.eqOk, T.pl, pls, T.dep, deps, T.eqv, eqvs, gPut, gPut0, jbc, jbd, jan, jbe, pName, pIx, upPut, pathT, ja0, ja1, putP, ja2, ja3, ja4, jcd, jce, jcf, posOf, outs, T.fr, frs, T.fz, fzs, dFz, dVar, dMove, vOp, vOp1, vOp2, bOp, dCons, dNil, fTup, fLst, fRep, jck, jcl, jcm, jcn, fro, dNot, dAnd, dOr, jcs, dDisp, dNewD, keyT, jdj, jbm, bndOf, jbu, jcg, jb1, ja5, ja6, jai, jaj, fIsi, fIsi2, T.noIns, T.isi, dIx0, noEx, dIno, dCall, jah, sFor, iSeq, jat, jbo, iStrT, jak, jal, jam, jaf, dComp, cLoop, bYes, wipeE, jar, jb9, jca, jcb, jb4, jcc, fNot, fJoin, jdu, dMeth, jdv, jcy, jdk, atK, T.isO, jch, jci, fKin, fKix, jbp, jcj, at_0, at_1, at_2, at_3, at_4, at_5, at_6, at_7, at_8, at_9, jdl, fOrd, sFrz]
    · have c : 0 < R := by omega
      have st := jnc p m way spot found k base R Tn a (by omega) (by omega)
      have e : rTest (rOp2 fGt (rVar 10) (rC (.int 0))) [p, m, some (.str "abcdefghijklmnopqrstuvwxyz"), way, some (.int Tn), base, spot, found, k, some (.str (SX.S a)), some (.int R)] = .ok (true, [p, m, some (.str "abcdefghijklmnopqrstuvwxyz"), way, some (.int Tn), base, spot, found, k, some (.str (SX.S a)), some (.int R)]) := by
        simp +decide [c, fRun, sSeq, sIf, rTest, bTest, bNot, bAnd, bOr, rOp1, rOp2, rOp3, rOpN, rVar, rC, jdm, jdx, jdy, jdz, jd0, dGet, keyOk, T.leaf, T.tkey, T.beq, beqs, fCmp, int2, _root_.Q.R.fl, _root_.Q.R.bind, sSet, sAsg, sExpr, sRet, sRetN, sNil, dOf, fAddR, fSub, jb5, jau, jcp, jcq, jcr, fNeg, fAbs, fInt, fMax2, fMin2, jby, jbz, jb7, jb0, jb8, fEq, fNe, fIs, jc4, ja7, jco, ja8, ja9, jba, jbb, T.eqOk, T.pl, pls, T.dep, deps, T.eqv, eqvs, gPut, gPut0, jbc, jbd, jan, jbe, pName, pIx, upPut, pathT, ja0, ja1, putP, ja2, ja3, ja4, jcd, jce, jcf, posOf, outs, T.fr, frs, T.fz, fzs, dFz, dVar, dMove, vOp, vOp1, vOp2, bOp, dCons, dNil, fTup, fLst, fRep, jck, jcl, jcm, jcn, fro, dNot, dAnd, dOr, jcs, dDisp, dNewD, keyT, jdj, jbm, bndOf, jbu, jcg, jb1, ja5, ja6, jai, jaj, fIsi, fIsi2, T.noIns, T.isi, dIx0, noEx, dIno, dCall, jah, sFor, iSeq, jat, jbo, iStrT, jak, jal, jam, jaf, dComp, cLoop, bYes, wipeE, jar, jb9, jca, jcb, jb4, jcc, fNot, fJoin, jdu, dMeth, jdv, jcy, jdk, atK, T.isO, jch, jci, fKin, fKix, jbp, jcj, at_0, at_1, at_2, at_3, at_4, at_5, at_6, at_7, at_8, at_9, jdl, fOrd, sFrz]
      rw [e]
      simp only [_root_.Q.R.fl, if_true, st]
      have q := ih ((r - 1) / 2) (by omega) ((R - 1) / 2) ([97 + ((Tn + 9 * (R % 2)) % 26).toNat] ++ a) n (by omega) (by omega) (by simp; omega)
      rw [q, bwS turn z, List.append_assoc]
      congr 6
      rw [show ((Tn + 9 * (R % 2)) % 26).toNat = (turn + 9 * (r % 2)) % 26 by omega]
theorem joi (p m : Option T) (way turn spot kn : Nat) (Wy Tn Sp Kn : Int) (hW : Wy = way) (hT : Tn = turn) (hS : Sp = spot) (hK : Kn = kn) (hk : kn < 500) (b : List Nat) (hb : b.length ≤ 6) (ls : List (List Nat)) (hl : ls.length < 4000) :
    je0 [p, m, some (.str "abcdefghijklmnopqrstuvwxyz"), some (.int Wy), some (.int Tn), some (.str (SX.S b)), some (.int Sp), some (.lst true (nmT ls)), some (.int Kn), none, none] =
      .nx [p, m, some (.str "abcdefghijklmnopqrstuvwxyz"), some (.int Wy), some (.int Tn), some (.str (SX.S b)), some (.int Sp), some (.lst true (nmT (ls ++ [nmAt way turn b spot kn]))), none, none, none] := by
  have e1 := abc_ix (i := (Tn + 7 * Kn) % 26) (by omega) (by omega)
  have e2 := abc_ix (i := (Tn + Kn / 26) % 26) (by omega) (by omega)
  have c1 : (⟨#[97 + ((Tn + 7 * Kn) % 26).toNat]⟩ : Str) ++ ⟨#[97 + ((Tn + Kn / 26) % 26).toNat]⟩ = SX.S [97 + ((Tn + 7 * Kn) % 26).toNat, 97 + ((Tn + Kn / 26) % 26).toNat] := SX.S_cat [97 + ((Tn + 7 * Kn) % 26).toNat] [97 + ((Tn + Kn / 26) % 26).toNat]
  have l1 : (⟨#[97 + ((Tn + 7 * Kn) % 26).toNat]⟩ : Str).length = 1 := rfl
  have l2 : (⟨#[97 + ((Tn + Kn / 26) % 26).toNat]⟩ : Str).length = 1 := rfl
  have l11 : 1 + 1 ≤ sizeLine := jgd (by omega)
  have lb : (SX.S b).length ≤ sizeLine := jgd (by rw [SX.S_len]; omega)
  have s1 := SX.slice_to (a := b) (i := Sp) (by omega)
  have s2 := SX.slice_from (a := b) (i := Sp) (by omega)
  have hsp : Sp.toNat = spot := by omega
  rw [hsp] at s1 s2
  have q1 : (SX.S (b.take spot)).length + (SX.S [97 + ((Tn + 7 * Kn) % 26).toNat, 97 + ((Tn + Kn / 26) % 26).toNat]).length ≤ sizeLine := jgd (by simp only [SX.S_len, List.length_take, List.length_cons, List.length_nil]; omega)
  have q2 : (SX.S (b.take spot ++ [97 + ((Tn + 7 * Kn) % 26).toNat, 97 + ((Tn + Kn / 26) % 26).toNat])).length + (SX.S (b.drop spot)).length ≤ sizeLine := jgd (by simp only [SX.S_len, List.length_append, List.length_take, List.length_drop, List.length_cons, List.length_nil]; omega)
  have hn : (nmT ls).length < 4000 := by simpa [nmT] using hl
  have app : ∀ x : List Nat, nmT ls ++ [.str (SX.S x)] = nmT (ls ++ [x]) := fun x => by simp [nmT]
  have go : ∀ (x : List Nat) (y : Option T), x = nmAt way turn b spot kn → (sExpr (dMeth false 7 jde (dCons (dOf (rVar 9)) dNil))) [p, m, some (.str "abcdefghijklmnopqrstuvwxyz"), some (.int Wy), some (.int Tn), some (.str (SX.S b)), some (.int Sp), some (.lst true (nmT ls)), some (.int Kn), some (.str (SX.S x)), y] =
      .nx [p, m, some (.str "abcdefghijklmnopqrstuvwxyz"), some (.int Wy), some (.int Tn), some (.str (SX.S b)), some (.int Sp), some (.lst true (nmT (ls ++ [nmAt way turn b spot kn]))), some (.int Kn), some (.str (SX.S x)), y] := fun x y hx => by
    rw [← hx, ← app]
    simp +decide [hn, fRun, sSeq, sIf, rTest, bTest, bNot, bAnd, bOr, rOp1, rOp2, rOp3, rOpN, rVar, rC, jdm, jdx, jdy, jdz, jd0, dGet, keyOk, T.leaf, T.tkey, T.beq, beqs, fCmp, int2, _root_.Q.R.fl, _root_.Q.R.bind, sSet, sAsg, sExpr, sRet, sRetN, sNil, dOf, fAddR, fSub, jb5, jau, jcp, jcq, jcr, fNeg, fAbs, fInt, fMax2, fMin2, jby, jbz, jb7, jb0, jb8, fEq, fNe, fIs, jc4, ja7, jco, ja8, ja9, jba, jbb, T.eqOk, T.pl, pls, T.dep, deps, T.eqv, eqvs, gPut, gPut0, jbc, jbd, jan, jbe, pName, pIx, upPut, pathT, ja0, ja1, putP, ja2, ja3, ja4, jcd, jce, jcf, posOf, outs, T.fr, frs, T.fz, fzs, dFz, dVar, dMove, vOp, vOp1, vOp2, bOp, dCons, dNil, fTup, fLst, fRep, jck, jcl, jcm, jcn, fro, dNot, dAnd, dOr, jcs, dDisp, dNewD, keyT, jdj, jbm, bndOf, jbu, jcg, jb1, ja5, ja6, jai, jaj, fIsi, fIsi2, T.noIns, T.isi, dIx0, noEx, dIno, dCall, jah, sFor, iSeq, jat, jbo, iStrT, jak, jal, jam, jaf, dComp, cLoop, bYes, wipeE, jar, jb9, jca, jcb, jb4, jcc, fNot, fJoin, jdu, dMeth, jdv, jcy, jdk, atK, T.isO, jch, jci, fKin, fKix, jbp, jcj, at_0, at_1, at_2, at_3, at_4, at_5, at_6, at_7, at_8, at_9, jdl, fOrd, sFrz]
  delta je0
  have st1 : (sSet 9 (dFz (bOp fCat [rOp2 fIx (rVar 2) (rOp2 fMod (rOp2 fAddR (rVar 4) (rOp2 fMulR (rC (.int 7)) (rVar 8))) (rC (.int 26))), rOp2 fIx (rVar 2) (rOp2 fMod (rOp2 fAddR (rVar 4) (rOp2 fDiv (rVar 8) (rC (.int 26)))) (rC (.int 26)))])))
      [p, m, some (.str "abcdefghijklmnopqrstuvwxyz"), some (.int Wy), some (.int Tn), some (.str (SX.S b)), some (.int Sp), some (.lst true (nmT ls)), some (.int Kn), none, none] =
      .nx [p, m, some (.str "abcdefghijklmnopqrstuvwxyz"), some (.int Wy), some (.int Tn), some (.str (SX.S b)), some (.int Sp), some (.lst true (nmT ls)), some (.int Kn), some (.str (SX.S [97 + ((Tn + 7 * Kn) % 26).toNat, 97 + ((Tn + Kn / 26) % 26).toNat])), none] := by
    rw [← c1]
    simp +decide [e1, e2, l1, l2, l11, fRun, sSeq, sIf, rTest, bTest, bNot, bAnd, bOr, rOp1, rOp2, rOp3, rOpN, rVar, rC, jdm, jdx, jdy, jdz, jd0, dGet, keyOk, T.leaf, T.tkey, T.beq, beqs, fCmp, int2, _root_.Q.R.fl, _root_.Q.R.bind, sSet, sAsg, sExpr, sRet, sRetN, sNil, dOf, fAddR, fSub, jb5, jau, jcp, jcq, jcr, fNeg, fAbs, fInt, fMax2, fMin2, jby, jbz, jb7, jb0, jb8, fEq, fNe, fIs, jc4, ja7, jco, ja8, ja9, jba, jbb, T.eqOk, T.pl, pls, T.dep, deps, T.eqv, eqvs, gPut, gPut0, jbc, jbd, jan, jbe, pName, pIx, upPut, pathT, ja0, ja1, putP, ja2, ja3, ja4, jcd, jce, jcf, posOf, outs, T.fr, frs, T.fz, fzs, dFz, dVar, dMove, vOp, vOp1, vOp2, bOp, dCons, dNil, fTup, fLst, fRep, jck, jcl, jcm, jcn, fro, dNot, dAnd, dOr, jcs, dDisp, dNewD, keyT, jdj, jbm, bndOf, jbu, jcg, jb1, ja5, ja6, jai, jaj, fIsi, fIsi2, T.noIns, T.isi, dIx0, noEx, dIno, dCall, jah, sFor, iSeq, jat, jbo, iStrT, jak, jal, jam, jaf, dComp, cLoop, bYes, wipeE, jar, jb9, jca, jcb, jb4, jcc, fNot, fJoin, jdu, dMeth, jdv, jcy, jdk, atK, T.isO, jch, jci, fKin, fKix, jbp, jcj, at_0, at_1, at_2, at_3, at_4, at_5, at_6, at_7, at_8, at_9, jdl, fOrd, sFrz]
  have st2 : (sSet 9 (dFz (vOp2 fCat (vOp2 fCat (jbm (rVar 5) none (some (rVar 6))) (dOf (rVar 9))) (jbm (rVar 5) (some (rVar 6)) none))))
      [p, m, some (.str "abcdefghijklmnopqrstuvwxyz"), some (.int Wy), some (.int Tn), some (.str (SX.S b)), some (.int Sp), some (.lst true (nmT ls)), some (.int Kn), some (.str (SX.S [97 + ((Tn + 7 * Kn) % 26).toNat, 97 + ((Tn + Kn / 26) % 26).toNat])), none] =
      .nx [p, m, some (.str "abcdefghijklmnopqrstuvwxyz"), some (.int Wy), some (.int Tn), some (.str (SX.S b)), some (.int Sp), some (.lst true (nmT ls)), some (.int Kn), some (.str (SX.S (b.take spot ++ [97 + ((Tn + 7 * Kn) % 26).toNat, 97 + ((Tn + Kn / 26) % 26).toNat] ++ b.drop spot))), none] := by
    rw [← SX.S_cat (b.take spot ++ _), ← SX.S_cat (b.take spot)]
    rw [← SX.S_cat (b.take spot)] at q2
    generalize SX.S [97 + ((Tn + 7 * Kn) % 26).toNat, 97 + ((Tn + Kn / 26) % 26).toNat] = W at *
    simp +decide [lb, s1, s2, q1, q2, fRun, sSeq, sIf, rTest, bTest, bNot, bAnd, bOr, rOp1, rOp2, rOp3, rOpN, rVar, rC, jdm, jdx, jdy, jdz, jd0, dGet, keyOk, T.leaf, T.tkey, T.beq, beqs, fCmp, int2, _root_.Q.R.fl, _root_.Q.R.bind, sSet, sAsg, sExpr, sRet, sRetN, sNil, dOf, fAddR, fSub, jb5, jau, jcp, jcq, jcr, fNeg, fAbs, fInt, fMax2, fMin2, jby, jbz, jb7, jb0, jb8, fEq, fNe, fIs, jc4, ja7, jco, ja8, ja9, jba, jbb, T.eqOk, T.pl, pls, T.dep, deps, T.eqv, eqvs, gPut, gPut0, jbc, jbd, jan, jbe, pName, pIx, upPut, pathT, ja0, ja1, putP, ja2, ja3, ja4, jcd, jce, jcf, posOf, outs, T.fr, frs, T.fz, fzs, dFz, dVar, dMove, vOp, vOp1, vOp2, bOp, dCons, dNil, fTup, fLst, fRep, jck, jcl, jcm, jcn, fro, dNot, dAnd, dOr, jcs, dDisp, dNewD, keyT, jdj, jbm, bndOf, jbu, jcg, jb1, ja5, ja6, jai, jaj, fIsi, fIsi2, T.noIns, T.isi, dIx0, noEx, dIno, dCall, jah, sFor, iSeq, jat, jbo, iStrT, jak, jal, jam, jaf, dComp, cLoop, bYes, wipeE, jar, jb9, jca, jcb, jb4, jcc, fNot, fJoin, jdu, dMeth, jdv, jcy, jdk, atK, T.isO, jch, jci, fKin, fKix, jbp, jcj, at_0, at_1, at_2, at_3, at_4, at_5, at_6, at_7, at_8, at_9, jdl, fOrd, sFrz]
  by_cases w1 : way = 1
  · have hWy : Wy = 1 := by omega
    have wl := jnd p m (some (.int Wy)) (some (.int Sp)) (some (.lst true (nmT ls))) (some (.int Kn)) (some (.str (SX.S b))) turn Tn hT (kn + 1) (Kn + 1) [] 1000000 (by omega) (by omega) (by simp; omega)
    rw [List.append_nil] at wl
    have hx : bw turn (kn + 1) = nmAt way turn b spot kn := by unfold nmAt; rw [if_pos w1]
    refine jmu (jhm st1 (jhm st2 (jhm (ρ1 := [p, m, some (.str "abcdefghijklmnopqrstuvwxyz"), some (.int Wy), some (.int Tn), some (.str (SX.S b)), some (.int Sp), some (.lst true (nmT ls)), some (.int Kn), some (.str (SX.S (bw turn (kn + 1)))), some (.int 0)]) ?_ (go _ (some (.int 0)) hx)))) rfl
    have em : (Str.ofString "") = SX.S [] := rfl
    unfold sWhile
    simp +decide [hWy, em, fRun, sSeq, sIf, rTest, bTest, bNot, bAnd, bOr, rOp1, rOp2, rOp3, rOpN, rVar, rC, jdm, jdx, jdy, jdz, jd0, dGet, keyOk, T.leaf, T.tkey, T.beq, beqs, fCmp, int2, _root_.Q.R.fl, _root_.Q.R.bind, sSet, sAsg, sExpr, sRet, sRetN, sNil, dOf, fAddR, fSub, jb5, jau, jcp, jcq, jcr, fNeg, fAbs, fInt, fMax2, fMin2, jby, jbz, jb7, jb0, jb8, fEq, fNe, fIs, jc4, ja7, jco, ja8, ja9, jba, jbb, T.eqOk, T.pl, pls, T.dep, deps, T.eqv, eqvs, gPut, gPut0, jbc, jbd, jan, jbe, pName, pIx, upPut, pathT, ja0, ja1, putP, ja2, ja3, ja4, jcd, jce, jcf, posOf, outs, T.fr, frs, T.fz, fzs, dFz, dVar, dMove, vOp, vOp1, vOp2, bOp, dCons, dNil, fTup, fLst, fRep, jck, jcl, jcm, jcn, fro, dNot, dAnd, dOr, jcs, dDisp, dNewD, keyT, jdj, jbm, bndOf, jbu, jcg, jb1, ja5, ja6, jai, jaj, fIsi, fIsi2, T.noIns, T.isi, dIx0, noEx, dIno, dCall, jah, sFor, iSeq, jat, jbo, iStrT, jak, jal, jam, jaf, dComp, cLoop, bYes, wipeE, jar, jb9, jca, jcb, jb4, jcc, fNot, fJoin, jdu, dMeth, jdv, jcy, jdk, atK, T.isO, jch, jci, fKin, fKix, jbp, jcj, at_0, at_1, at_2, at_3, at_4, at_5, at_6, at_7, at_8, at_9, jdl, fOrd, sFrz]
    rw [hWy] at wl
    exact wl
  · have hWy : ¬ Wy = 1 := by omega
    have hx : b.take spot ++ [97 + ((Tn + 7 * Kn) % 26).toNat, 97 + ((Tn + Kn / 26) % 26).toNat] ++ b.drop spot = nmAt way turn b spot kn := by
      unfold nmAt
      rw [if_neg w1, show ((Tn + 7 * Kn) % 26).toNat = (turn + 7 * kn) % 26 by omega, show ((Tn + Kn / 26) % 26).toNat = (turn + kn / 26) % 26 by omega]
    refine jmu (jhm st1 (jhm st2 (jhm (ρ1 := [p, m, some (.str "abcdefghijklmnopqrstuvwxyz"), some (.int Wy), some (.int Tn), some (.str (SX.S b)), some (.int Sp), some (.lst true (nmT ls)), some (.int Kn), some (.str (SX.S (b.take spot ++ [97 + ((Tn + 7 * Kn) % 26).toNat, 97 + ((Tn + Kn / 26) % 26).toNat] ++ b.drop spot))), none]) ?_ (go _ none hx)))) rfl
    simp +decide [hWy, fRun, sSeq, sIf, rTest, bTest, bNot, bAnd, bOr, rOp1, rOp2, rOp3, rOpN, rVar, rC, jdm, jdx, jdy, jdz, jd0, dGet, keyOk, T.leaf, T.tkey, T.beq, beqs, fCmp, int2, _root_.Q.R.fl, _root_.Q.R.bind, sSet, sAsg, sExpr, sRet, sRetN, sNil, dOf, fAddR, fSub, jb5, jau, jcp, jcq, jcr, fNeg, fAbs, fInt, fMax2, fMin2, jby, jbz, jb7, jb0, jb8, fEq, fNe, fIs, jc4, ja7, jco, ja8, ja9, jba, jbb, T.eqOk, T.pl, pls, T.dep, deps, T.eqv, eqvs, gPut, gPut0, jbc, jbd, jan, jbe, pName, pIx, upPut, pathT, ja0, ja1, putP, ja2, ja3, ja4, jcd, jce, jcf, posOf, outs, T.fr, frs, T.fz, fzs, dFz, dVar, dMove, vOp, vOp1, vOp2, bOp, dCons, dNil, fTup, fLst, fRep, jck, jcl, jcm, jcn, fro, dNot, dAnd, dOr, jcs, dDisp, dNewD, keyT, jdj, jbm, bndOf, jbu, jcg, jb1, ja5, ja6, jai, jaj, fIsi, fIsi2, T.noIns, T.isi, dIx0, noEx, dIno, dCall, jah, sFor, iSeq, jat, jbo, iStrT, jak, jal, jam, jaf, dComp, cLoop, bYes, wipeE, jar, jb9, jca, jcb, jb4, jcc, fNot, fJoin, jdu, dMeth, jdv, jcy, jdk, atK, T.isO, jch, jci, fKin, fKix, jbp, jcj, at_0, at_1, at_2, at_3, at_4, at_5, at_6, at_7, at_8, at_9, jdl, fOrd, sFrz]
theorem jgc {lo : Int} {n i : Nat} {t : T} (h : (intsT lo n)[i]? = some t) : i < n ∧ ∃ K : Int, K = lo + i ∧ t = .int K := by
  have hi : i < n := by
    have := (List.getElem?_eq_some_iff.mp h).1
    simpa [intsT] using this
  rw [jme hi] at h
  cases h
  exact ⟨hi, _, rfl, rfl⟩
theorem joj (m way turn : Option T) (p : Pen) {n : Int} (h : pT n p) (k : Nat) (hk : k ≤ 10) (hn : n + 20 < 67108864) : ∃ (cs : List Nat) (p' : Pen), cLoop [8] (gSlot 8) bYes jey (intsT 0 k) [] [some p.t, m, some (.str "abcdefghijklmnopqrstuvwxyz"), way, turn, none, none, none, none, none, none] =
      .ok (.lst true (signT cs), [some p'.t, m, some (.str "abcdefghijklmnopqrstuvwxyz"), way, turn, none, none, none, none, none, none]) ∧ cs.length = k ∧ (∀ c ∈ cs, low c) ∧ pT (n + k) p' := by
  have hlen : (intsT 0 k).length = k := by simp [intsT]
  obtain ⟨acc, ρ, e, p', cs, hρ, ha, h2, h3, h4⟩ := jhn (own := [8]) (g := gSlot 8) (t := bYes) (d := jey) (xs := intsT 0 k) (acc := []) (n := 0) (ρ := [some p.t, m, some (.str "abcdefghijklmnopqrstuvwxyz"), way, turn, none, none, none, none, none, none])
    (I := fun i acc ρ => ∃ (p' : Pen) (cs : List Nat), ρ = [some p'.t, m, some (.str "abcdefghijklmnopqrstuvwxyz"), way, turn, none, none, none, none, none, none] ∧ acc = signT cs ∧ cs.length = i ∧ (∀ c ∈ cs, low c) ∧ (i ≤ k → pT (n + i) p')) (fun i acc ρ x _ ex ⟨p1, cs, r1, ra, r2, r3, r4⟩ => by
      subst r1
      obtain ⟨hi, K, hK, rfl⟩ := jgc (by simpa using ex)
      obtain ⟨r, p2, t1, t2, t3, t4⟩ := jfb p1 (r4 (by omega)) (by omega) 26 (by omega) (by omega)
      have hc := abc_ix t2 t3
      refine ⟨_, _, rfl, .inr ⟨rfl, ?_, .str ⟨#[97 + r.toNat]⟩, [some p2.t, m, some (.str "abcdefghijklmnopqrstuvwxyz"), way, turn, none, none, none, some (.int K), none, none], ?_, p2, cs ++ [97 + r.toNat], rfl, by rw [ra]; simp [signT], by simp [r2], ?_, fun _ => ?_⟩⟩
      · rw [ra, signT, List.length_map, r2]; exact Nat.lt_of_lt_of_le (Nat.lt_of_lt_of_le hi hk) (by decide)
      · simp +decide [jey, t1, hc, fRun, sSeq, sIf, rTest, bTest, bNot, bAnd, bOr, rOp1, rOp2, rOp3, rOpN, rVar, rC, jdm, jdx, jdy, jdz, jd0, dGet, keyOk, T.leaf, T.tkey, T.beq, beqs, fCmp, int2, _root_.Q.R.fl, _root_.Q.R.bind, sSet, sAsg, sExpr, sRet, sRetN, sNil, dOf, fAddR, fSub, jb5, jau, jcp, jcq, jcr, fNeg, fAbs, fInt, fMax2, fMin2, jby, jbz, jb7, jb0, jb8, fEq, fNe, fIs, jc4, ja7, jco, ja8, ja9, jba, jbb, T.eqOk, T.pl, pls, T.dep, deps, T.eqv, eqvs, gPut, gPut0, jbc, jbd, jan, jbe, pName, pIx, upPut, pathT, ja0, ja1, putP, ja2, ja3, ja4, jcd, jce, jcf, posOf, outs, T.fr, frs, T.fz, fzs, dFz, dVar, dMove, vOp, vOp1, vOp2, bOp, dCons, dNil, fTup, fLst, fRep, jck, jcl, jcm, jcn, fro, dNot, dAnd, dOr, jcs, dDisp, dNewD, keyT, jdj, jbm, bndOf, jbu, jcg, jb1, ja5, ja6, jai, jaj, fIsi, fIsi2, T.noIns, T.isi, dIx0, noEx, dIno, dCall, jah, sFor, iSeq, jat, jbo, iStrT, jak, jal, jam, jaf, dComp, cLoop, bYes, wipeE, jar, jb9, jca, jcb, jb4, jcc, fNot, fJoin, jdu, dMeth, jdv, jcy, jdk, atK, T.isO, jch, jci, fKin, fKix, jbp, jcj, at_0, at_1, at_2, at_3, at_4, at_5, at_6, at_7, at_8, at_9, jdl, fOrd, sFrz]
      · intro t ht
        rcases List.mem_append.mp ht with z | z
        · exact r3 t z
        · rw [List.mem_singleton] at z
          subst z
          exact ⟨by omega, by omega⟩
      · have : ((i + 1 : Nat) : Int) = (i : Int) + 1 := by omega
        rw [this, ← Int.add_assoc]
        exact t4) ⟨p, [], rfl, rfl, rfl, (fun _ z => nomatch z), fun _ => by simpa using h⟩
  rw [hlen, Nat.zero_add] at h2 h4
  exact ⟨cs, p', by rw [e, hρ, ha], h2, h3, h4 (Nat.le_refl _)⟩
theorem jl6 (p : Pen) {n : Int} (h : pT n p) (hn : n + 30 < 67108864) (m : Int) (hm0 : 0 ≤ m) (hm : m ≤ 500) : ∃ (ls : List (List Nat)) (p' : Pen), jbn [p.t, .int m] = .ok (.lst true (nmT ls)) [p'.t] ∧ ls.length = m.toNat ∧ (∀ l ∈ ls, nm l) ∧ ls.Nodup ∧ pT (n + 10) p' := by
  obtain ⟨wy, p1, a1, a2, a3, a4⟩ := jfb p h (by omega) 3 (by omega) (by omega)
  obtain ⟨tn, p2, b1, b2, b3, b4⟩ := jfb p1 a4 (by omega) 26 (by omega) (by omega)
  obtain ⟨r7, p3, c1, c2, c3, c4⟩ := jfb p2 b4 (by omega) 7 (by omega) (by omega)
  have hw : wy = 0 ∨ wy = 1 ∨ wy = 2 := by omega
  obtain ⟨k, hk, hk0, hk6⟩ : ∃ k : Int, atI [T.int r7, T.int 0, T.int 6] wy = some (.int k) ∧ 0 ≤ k ∧ k ≤ 6 := by
    rcases hw with rfl | rfl | rfl
    · exact ⟨r7, at_0, by omega, by omega⟩
    · exact ⟨0, at_1, by omega, by omega⟩
    · exact ⟨6, at_2, by omega, by omega⟩
  obtain ⟨cs, p4, d1, d2, d3, d4⟩ := joj (some (.int m)) (some (.int wy)) (some (.int tn)) p3 c4 k.toNat (by omega) (by omega)
  obtain ⟨L, hL⟩ : ∃ L : Int, L = ((SX.S cs).length : Int) := ⟨_, rfl⟩
  have hL2 : L = k := by rw [hL, SX.S_len, d2]; omega
  obtain ⟨sp, p5, e1, e2, e3, e4⟩ := jfb p4 d4 (by omega) (L + 1) (by omega) (by omega)
  have lb : (SX.S cs).length ≤ sizeLine := jgd (by rw [SX.S_len, d2]; omega)
  have k62 : small62 k = true := jaf (by omega) (by omega)
  have m62 : small62 m = true := jaf (by omega) (by omega)
  have jo := joh (o := true) (cs := cs) (by omega)
  obtain ⟨ρ, f1, ls, f2, f3, f4⟩ := jfk (g := gSlot 8) (b := je0) (ts := intsT 0 m.toNat) (n := 0) (ρ := [some p5.t, some (.int m), some (.str "abcdefghijklmnopqrstuvwxyz"), some (.int wy), some (.int tn), some (.str (SX.S cs)), some (.int sp), some (.lst true []), none, none, none])
    (I := fun i ρ => ∃ ls : List (List Nat), ρ = [some p5.t, some (.int m), some (.str "abcdefghijklmnopqrstuvwxyz"), some (.int wy), some (.int tn), some (.str (SX.S cs)), some (.int sp), some (.lst true (nmT ls)), none, none, none] ∧ ls = (List.range i).map (nmAt wy.toNat tn.toNat cs sp.toNat) ∧ i ≤ m.toNat) (fun i ρ t _ ex ⟨ls, h1, h2, h3⟩ => by
      subst h1
      obtain ⟨hi, K, hK, rfl⟩ := jgc (by simpa using ex)
      have q := joi (some p5.t) (some (.int m)) wy.toNat tn.toNat sp.toNat i wy tn sp K (by omega) (by omega) (by omega) (by omega) (by omega) cs (by omega) ls (by rw [h2]; simp; omega)
      exact ⟨_, _, rfl, .inl q, _, rfl, by rw [h2, List.range_succ]; simp, hi⟩) ⟨[], rfl, rfl, Nat.zero_le _⟩
  have hlen : (intsT 0 m.toNat).length = m.toNat := by simp [intsT]
  rw [hlen, Nat.zero_add] at f3 f4
  subst f2
  refine ⟨ls, p5, ?_, by rw [f3]; simp, fun l hl => ?_, ?_, e4.1, by have := e4.2; omega⟩
  · unfold jbn fRun
    have body : jg5 ([p.t, T.int m].map some ++ List.replicate (11 - [p.t, T.int m].length) none) = .rt (.lst true (nmT ls)) [some p5.t, some (.int m), some (.str "abcdefghijklmnopqrstuvwxyz"), some (.int wy), some (.int tn), some (.str (SX.S cs)), some (.int sp), none, none, none, none] := by
      delta jg5
      refine jhm (ρ1 := [some p.t, some (.int m), some (.str "abcdefghijklmnopqrstuvwxyz"), none, none, none, none, none, none, none, none]) ?_ (jhm (ρ1 := [some p1.t, some (.int m), some (.str "abcdefghijklmnopqrstuvwxyz"), some (.int wy), none, none, none, none, none, none, none]) ?_ (jhm (ρ1 := [some p2.t, some (.int m), some (.str "abcdefghijklmnopqrstuvwxyz"), some (.int wy), some (.int tn), none, none, none, none, none, none]) ?_ (jhm (ρ1 := [some p4.t, some (.int m), some (.str "abcdefghijklmnopqrstuvwxyz"), some (.int wy), some (.int tn), some (.str (SX.S cs)), none, none, none, none, none]) ?_ (jhm (ρ1 := [some p5.t, some (.int m), some (.str "abcdefghijklmnopqrstuvwxyz"), some (.int wy), some (.int tn), some (.str (SX.S cs)), some (.int sp), none, none, none, none]) ?_ (jhm (ρ1 := [some p5.t, some (.int m), some (.str "abcdefghijklmnopqrstuvwxyz"), some (.int wy), some (.int tn), some (.str (SX.S cs)), some (.int sp), some (.lst true []), none, none, none]) ?_ (jhm (ρ1 := [some p5.t, some (.int m), some (.str "abcdefghijklmnopqrstuvwxyz"), some (.int wy), some (.int tn), some (.str (SX.S cs)), some (.int sp), some (.lst true (nmT ls)), none, none, none]) ?_ ?_))))))
      · simp +decide [fRun, sSeq, sIf, rTest, bTest, bNot, bAnd, bOr, rOp1, rOp2, rOp3, rOpN, rVar, rC, jdm, jdx, jdy, jdz, jd0, dGet, keyOk, T.leaf, T.tkey, T.beq, beqs, fCmp, int2, _root_.Q.R.fl, _root_.Q.R.bind, sSet, sAsg, sExpr, sRet, sRetN, sNil, dOf, fAddR, fSub, jb5, jau, jcp, jcq, jcr, fNeg, fAbs, fInt, fMax2, fMin2, jby, jbz, jb7, jb0, jb8, fEq, fNe, fIs, jc4, ja7, jco, ja8, ja9, jba, jbb, T.eqOk, T.pl, pls, T.dep, deps, T.eqv, eqvs, gPut, gPut0, jbc, jbd, jan, jbe, pName, pIx, upPut, pathT, ja0, ja1, putP, ja2, ja3, ja4, jcd, jce, jcf, posOf, outs, T.fr, frs, T.fz, fzs, dFz, dVar, dMove, vOp, vOp1, vOp2, bOp, dCons, dNil, fTup, fLst, fRep, jck, jcl, jcm, jcn, fro, dNot, dAnd, dOr, jcs, dDisp, dNewD, keyT, jdj, jbm, bndOf, jbu, jcg, jb1, ja5, ja6, jai, jaj, fIsi, fIsi2, T.noIns, T.isi, dIx0, noEx, dIno, dCall, jah, sFor, iSeq, jat, jbo, iStrT, jak, jal, jam, jaf, dComp, cLoop, bYes, wipeE, jar, jb9, jca, jcb, jb4, jcc, fNot, fJoin, jdu, dMeth, jdv, jcy, jdk, atK, T.isO, jch, jci, fKin, fKix, jbp, jcj, at_0, at_1, at_2, at_3, at_4, at_5, at_6, at_7, at_8, at_9, jdl, fOrd, sFrz]
      · simp +decide [a1, fRun, sSeq, sIf, rTest, bTest, bNot, bAnd, bOr, rOp1, rOp2, rOp3, rOpN, rVar, rC, jdm, jdx, jdy, jdz, jd0, dGet, keyOk, T.leaf, T.tkey, T.beq, beqs, fCmp, int2, _root_.Q.R.fl, _root_.Q.R.bind, sSet, sAsg, sExpr, sRet, sRetN, sNil, dOf, fAddR, fSub, jb5, jau, jcp, jcq, jcr, fNeg, fAbs, fInt, fMax2, fMin2, jby, jbz, jb7, jb0, jb8, fEq, fNe, fIs, jc4, ja7, jco, ja8, ja9, jba, jbb, T.eqOk, T.pl, pls, T.dep, deps, T.eqv, eqvs, gPut, gPut0, jbc, jbd, jan, jbe, pName, pIx, upPut, pathT, ja0, ja1, putP, ja2, ja3, ja4, jcd, jce, jcf, posOf, outs, T.fr, frs, T.fz, fzs, dFz, dVar, dMove, vOp, vOp1, vOp2, bOp, dCons, dNil, fTup, fLst, fRep, jck, jcl, jcm, jcn, fro, dNot, dAnd, dOr, jcs, dDisp, dNewD, keyT, jdj, jbm, bndOf, jbu, jcg, jb1, ja5, ja6, jai, jaj, fIsi, fIsi2, T.noIns, T.isi, dIx0, noEx, dIno, dCall, jah, sFor, iSeq, jat, jbo, iStrT, jak, jal, jam, jaf, dComp, cLoop, bYes, wipeE, jar, jb9, jca, jcb, jb4, jcc, fNot, fJoin, jdu, dMeth, jdv, jcy, jdk, atK, T.isO, jch, jci, fKin, fKix, jbp, jcj, at_0, at_1, at_2, at_3, at_4, at_5, at_6, at_7, at_8, at_9, jdl, fOrd, sFrz]
      · simp +decide [b1, fRun, sSeq, sIf, rTest, bTest, bNot, bAnd, bOr, rOp1, rOp2, rOp3, rOpN, rVar, rC, jdm, jdx, jdy, jdz, jd0, dGet, keyOk, T.leaf, T.tkey, T.beq, beqs, fCmp, int2, _root_.Q.R.fl, _root_.Q.R.bind, sSet, sAsg, sExpr, sRet, sRetN, sNil, dOf, fAddR, fSub, jb5, jau, jcp, jcq, jcr, fNeg, fAbs, fInt, fMax2, fMin2, jby, jbz, jb7, jb0, jb8, fEq, fNe, fIs, jc4, ja7, jco, ja8, ja9, jba, jbb, T.eqOk, T.pl, pls, T.dep, deps, T.eqv, eqvs, gPut, gPut0, jbc, jbd, jan, jbe, pName, pIx, upPut, pathT, ja0, ja1, putP, ja2, ja3, ja4, jcd, jce, jcf, posOf, outs, T.fr, frs, T.fz, fzs, dFz, dVar, dMove, vOp, vOp1, vOp2, bOp, dCons, dNil, fTup, fLst, fRep, jck, jcl, jcm, jcn, fro, dNot, dAnd, dOr, jcs, dDisp, dNewD, keyT, jdj, jbm, bndOf, jbu, jcg, jb1, ja5, ja6, jai, jaj, fIsi, fIsi2, T.noIns, T.isi, dIx0, noEx, dIno, dCall, jah, sFor, iSeq, jat, jbo, iStrT, jak, jal, jam, jaf, dComp, cLoop, bYes, wipeE, jar, jb9, jca, jcb, jb4, jcc, fNot, fJoin, jdu, dMeth, jdv, jcy, jdk, atK, T.isO, jch, jci, fKin, fKix, jbp, jcj, at_0, at_1, at_2, at_3, at_4, at_5, at_6, at_7, at_8, at_9, jdl, fOrd, sFrz]
      · simp +decide [c1, hk, k62, d1, jo, fRun, sSeq, sIf, rTest, bTest, bNot, bAnd, bOr, rOp1, rOp2, rOp3, rOpN, rVar, rC, jdm, jdx, jdy, jdz, jd0, dGet, keyOk, T.leaf, T.tkey, T.beq, beqs, fCmp, int2, _root_.Q.R.fl, _root_.Q.R.bind, sSet, sAsg, sExpr, sRet, sRetN, sNil, dOf, fAddR, fSub, jb5, jau, jcp, jcq, jcr, fNeg, fAbs, fInt, fMax2, fMin2, jby, jbz, jb7, jb0, jb8, fEq, fNe, fIs, jc4, ja7, jco, ja8, ja9, jba, jbb, T.eqOk, T.pl, pls, T.dep, deps, T.eqv, eqvs, gPut, gPut0, jbc, jbd, jan, jbe, pName, pIx, upPut, pathT, ja0, ja1, putP, ja2, ja3, ja4, jcd, jce, jcf, posOf, outs, T.fr, frs, T.fz, fzs, dFz, dVar, dMove, vOp, vOp1, vOp2, bOp, dCons, dNil, fTup, fLst, fRep, jck, jcl, jcm, jcn, fro, dNot, dAnd, dOr, jcs, dDisp, dNewD, keyT, jdj, jbm, bndOf, jbu, jcg, jb1, ja5, ja6, jai, jaj, fIsi, fIsi2, T.noIns, T.isi, dIx0, noEx, dIno, dCall, jah, sFor, iSeq, jat, jbo, iStrT, jak, jal, jam, dComp, wipeE, jar, jb9, jca, jcb, jb4, jcc, fNot, jdu, dMeth, jdv, jcy, jdk, atK, T.isO, jch, jci, fKin, fKix, jbp, jcj, at_0, at_1, at_2, at_3, at_4, at_5, at_6, at_7, at_8, at_9, jdl, fOrd, sFrz]
      · simp +decide [lb, ← hL, e1, fRun, sSeq, sIf, rTest, bTest, bNot, bAnd, bOr, rOp1, rOp2, rOp3, rOpN, rVar, rC, jdm, jdx, jdy, jdz, jd0, dGet, keyOk, T.leaf, T.tkey, T.beq, beqs, fCmp, int2, _root_.Q.R.fl, _root_.Q.R.bind, sSet, sAsg, sExpr, sRet, sRetN, sNil, dOf, fAddR, fSub, jb5, jau, jcp, jcq, jcr, fNeg, fAbs, fInt, fMax2, fMin2, jby, jbz, jb7, jb0, jb8, fEq, fNe, fIs, jc4, ja7, jco, ja8, ja9, jba, jbb, T.eqOk, T.pl, pls, T.dep, deps, T.eqv, eqvs, gPut, gPut0, jbc, jbd, jan, jbe, pName, pIx, upPut, pathT, ja0, ja1, putP, ja2, ja3, ja4, jcd, jce, jcf, posOf, outs, T.fr, frs, T.fz, fzs, dFz, dVar, dMove, vOp, vOp1, vOp2, bOp, dCons, dNil, fTup, fLst, fRep, jck, jcl, jcm, jcn, fro, dNot, dAnd, dOr, jcs, dDisp, dNewD, keyT, jdj, jbm, bndOf, jbu, jcg, jb1, ja5, ja6, jai, jaj, fIsi, fIsi2, T.noIns, T.isi, dIx0, noEx, dIno, dCall, jah, sFor, iSeq, jat, jbo, iStrT, jak, jal, jam, jaf, dComp, cLoop, bYes, wipeE, jar, jb9, jca, jcb, jb4, jcc, fNot, fJoin, jdu, dMeth, jdv, jcy, jdk, atK, T.isO, jch, jci, fKin, fKix, jbp, jcj, at_0, at_1, at_2, at_3, at_4, at_5, at_6, at_7, at_8, at_9, jdl, fOrd, sFrz]
      · simp +decide [fRun, sSeq, sIf, rTest, bTest, bNot, bAnd, bOr, rOp1, rOp2, rOp3, rOpN, rVar, rC, jdm, jdx, jdy, jdz, jd0, dGet, keyOk, T.leaf, T.tkey, T.beq, beqs, fCmp, int2, _root_.Q.R.fl, _root_.Q.R.bind, sSet, sAsg, sExpr, sRet, sRetN, sNil, dOf, fAddR, fSub, jb5, jau, jcp, jcq, jcr, fNeg, fAbs, fInt, fMax2, fMin2, jby, jbz, jb7, jb0, jb8, fEq, fNe, fIs, jc4, ja7, jco, ja8, ja9, jba, jbb, T.eqOk, T.pl, pls, T.dep, deps, T.eqv, eqvs, gPut, gPut0, jbc, jbd, jan, jbe, pName, pIx, upPut, pathT, ja0, ja1, putP, ja2, ja3, ja4, jcd, jce, jcf, posOf, outs, T.fr, frs, T.fz, fzs, dFz, dVar, dMove, vOp, vOp1, vOp2, bOp, dCons, dNil, fTup, fLst, fRep, jck, jcl, jcm, jcn, fro, dNot, dAnd, dOr, jcs, dDisp, dNewD, keyT, jdj, jbm, bndOf, jbu, jcg, jb1, ja5, ja6, jai, jaj, fIsi, fIsi2, T.noIns, T.isi, dIx0, noEx, dIno, dCall, jah, sFor, iSeq, jat, jbo, iStrT, jak, jal, jam, jaf, dComp, cLoop, bYes, wipeE, jar, jb9, jca, jcb, jb4, jcc, fNot, fJoin, jdu, dMeth, jdv, jcy, jdk, atK, T.isO, jch, jci, fKin, fKix, jbp, jcj, at_0, at_1, at_2, at_3, at_4, at_5, at_6, at_7, at_8, at_9, jdl, fOrd, sFrz]
      · simp +decide [m62, f1, fRun, sSeq, sIf, rTest, bTest, bNot, bAnd, bOr, rOp1, rOp2, rOp3, rOpN, rVar, rC, jdm, jdx, jdy, jdz, jd0, dGet, keyOk, T.leaf, T.tkey, T.beq, beqs, fCmp, int2, _root_.Q.R.fl, _root_.Q.R.bind, sSet, sAsg, sExpr, sRet, sRetN, sNil, dOf, fAddR, fSub, jb5, jau, jcp, jcq, jcr, fNeg, fAbs, fInt, fMax2, fMin2, jby, jbz, jb7, jb0, jb8, fEq, fNe, fIs, jc4, ja7, jco, ja8, ja9, jba, jbb, T.eqOk, T.pl, pls, T.dep, deps, T.eqv, eqvs, gPut, gPut0, jbc, jbd, jan, jbe, pName, pIx, upPut, pathT, ja0, ja1, putP, ja2, ja3, ja4, jcd, jce, jcf, posOf, outs, T.fr, frs, T.fz, fzs, dFz, dVar, dMove, vOp, vOp1, vOp2, bOp, dCons, dNil, fTup, fLst, fRep, jck, jcl, jcm, jcn, fro, dNot, dAnd, dOr, jcs, dDisp, dNewD, keyT, jdj, jbm, bndOf, jbu, jcg, jb1, ja5, ja6, jai, jaj, fIsi, fIsi2, T.noIns, T.isi, dIx0, noEx, dIno, dCall, jah, sFor, iSeq, jat, jbo, iStrT, jak, jal, jam, dComp, cLoop, bYes, wipeE, jar, jb9, jca, jcb, jb4, jcc, fNot, fJoin, jdu, dMeth, jdv, jcy, jdk, atK, T.isO, jch, jci, fKin, fKix, jbp, jcj, at_0, at_1, at_2, at_3, at_4, at_5, at_6, at_7, at_8, at_9, jdl, fOrd, sFrz]
      · simp +decide [fRun, sSeq, sIf, rTest, bTest, bNot, bAnd, bOr, rOp1, rOp2, rOp3, rOpN, rVar, rC, jdm, jdx, jdy, jdz, jd0, dGet, keyOk, T.leaf, T.tkey, T.beq, beqs, fCmp, int2, _root_.Q.R.fl, _root_.Q.R.bind, sSet, sAsg, sExpr, sRet, sRetN, sNil, dOf, fAddR, fSub, jb5, jau, jcp, jcq, jcr, fNeg, fAbs, fInt, fMax2, fMin2, jby, jbz, jb7, jb0, jb8, fEq, fNe, fIs, jc4, ja7, jco, ja8, ja9, jba, jbb, T.eqOk, T.pl, pls, T.dep, deps, T.eqv, eqvs, gPut, gPut0, jbc, jbd, jan, jbe, pName, pIx, upPut, pathT, ja0, ja1, putP, ja2, ja3, ja4, jcd, jce, jcf, posOf, outs, T.fr, frs, T.fz, fzs, dFz, dVar, dMove, vOp, vOp1, vOp2, bOp, dCons, dNil, fTup, fLst, fRep, jck, jcl, jcm, jcn, fro, dNot, dAnd, dOr, jcs, dDisp, dNewD, keyT, jdj, jbm, bndOf, jbu, jcg, jb1, ja5, ja6, jai, jaj, fIsi, fIsi2, T.noIns, T.isi, dIx0, noEx, dIno, dCall, jah, sFor, iSeq, jat, jbo, iStrT, jak, jal, jam, jaf, dComp, cLoop, bYes, wipeE, jar, jb9, jca, jcb, jb4, jcc, fNot, fJoin, jdu, dMeth, jdv, jcy, jdk, atK, T.isO, jch, jci, fKin, fKix, jbp, jcj, at_0, at_1, at_2, at_3, at_4, at_5, at_6, at_7, at_8, at_9, jdl, fOrd, sFrz]
    rw [body]
    rfl
  · rw [f3] at hl
    obtain ⟨j, hj, rfl⟩ := List.mem_map.mp hl
    have := List.mem_range.mp hj
    exact nmAt_nm d3 (by omega) (by omega)
  · rw [f3, List.nodup_iff_pairwise_ne, List.pairwise_map]
    refine List.Pairwise.imp_of_mem ?_ (List.nodup_iff_pairwise_ne.mp (List.nodup_range (n := m.toNat)))
    intro a b ha hb hab e
    have h1 := List.mem_range.mp ha
    have h2 := List.mem_range.mp hb
    exact hab (nmAt_inj (by omega) (by omega) e)
end Q
namespace Q
open PySem PySem.Spec PyProof.Rows L2
abbrev Nm := List Nat
def sT (l : Nm) : T := .str (SX.S l)
inductive Ent where
  | come (n : Nm) (t : Int) (g p : Nm) (a c : Int)
  | go (n : Nm) (t : Int) (g p : Nm) (a : Int)
  | move (n : Nm) (t : Int) (g p q : Nm) (a : Int)
  | some (n : Nm) (t : Int) (g p q : Nm)
  | swap (n : Nm) (t : Int) (p q : Nm)
  | count (n : Nm) (t : Int) (g p : Nm) (a : Int) (h : Nm)
  | look (n : Nm) (t : Int) (g p : Nm)
def Ent.t : Ent → T
  | .come n t g p a c => .tup [.str "come", sT n, .int t, sT g, sT p, .int a, .int c]
  | .go n t g p a => .tup [.str "go", sT n, .int t, sT g, sT p, .int a]
  | .move n t g p q a => .tup [.str "move", sT n, .int t, sT g, sT p, sT q, .int a]
  | .some n t g p q => .tup [.str "some", sT n, .int t, sT g, sT p, sT q]
  | .swap n t p q => .tup [.str "swap", sT n, .int t, sT p, sT q]
  | .count n t g p a h => .tup [.str "count", sT n, .int t, sT g, sT p, .int a, sT h]
  | .look n t g p => .tup [.str "look", sT n, .int t, sT g, sT p]
def mom (t : Int) : Prop := 0 ≤ t ∧ t ≤ 9999
def amt (lo a : Int) : Prop := lo ≤ a ∧ a ≤ 1000000000
def Ent.Ok : Ent → Prop
  | .come n t g p a c => nm n ∧ mom t ∧ nm g ∧ nm p ∧ amt 1 a ∧ amt 0 c
  | .go n t g p a => nm n ∧ mom t ∧ nm g ∧ nm p ∧ amt 1 a
  | .move n t g p q a => nm n ∧ mom t ∧ nm g ∧ nm p ∧ nm q ∧ p ≠ q ∧ amt 1 a
  | .some n t g p q => nm n ∧ mom t ∧ nm g ∧ nm p ∧ (q = [] ∨ (nm q ∧ p ≠ q))
  | .swap n t p q => nm n ∧ mom t ∧ nm p ∧ nm q ∧ p ≠ q
  | .count n t g p a h => nm n ∧ mom t ∧ nm g ∧ nm p ∧ amt 0 a ∧ nm h
  | .look n t g p => nm n ∧ mom t ∧ nm g ∧ nm p
theorem Ent.fr (e : Ent) : e.t.fr = true := by cases e <;> rfl
theorem nm_line {l : Nm} (h : nm l) : (SX.S l).length ≤ sizeLine := jgd (by rw [SX.S_len]; have := h.2.1; omega)
def Ent.goodT : Ent → T
  | .come _ _ g _ _ _ => sT g
  | .go _ _ g _ _ => sT g
  | .move _ _ g _ _ _ => sT g
  | .some _ _ g _ _ => sT g
  | .swap _ _ _ _ => .non
  | .count _ _ g _ _ _ => sT g
  | .look _ _ g _ => sT g
def Ent.pl : Ent → List Nm
  | .come _ _ _ p _ _ => [p]
  | .go _ _ _ p _ => [p]
  | .move _ _ _ p q _ => [p, q]
  | .some _ _ _ p q => if q = [] then [p] else [p, q]
  | .swap _ _ p q => [p, q]
  | .count _ _ _ p _ _ => [p]
  | .look _ _ _ p => [p]
def Ent.mo : Ent → Int
  | .come _ t _ _ _ _ => t
  | .go _ t _ _ _ => t
  | .move _ t _ _ _ _ => t
  | .some _ t _ _ _ => t
  | .swap _ t _ _ => t
  | .count _ t _ _ _ _ => t
  | .look _ t _ _ => t
def Ent.nam : Ent → Nm
  | .come n _ _ _ _ _ => n
  | .go n _ _ _ _ => n
  | .move n _ _ _ _ _ => n
  | .some n _ _ _ _ => n
  | .swap n _ _ _ => n
  | .count n _ _ _ _ _ => n
  | .look n _ _ _ => n
end Q
namespace Q
open PySem PySem.Spec PyProof.Rows L2
def inT (ms : List Int) : List T := ms.map .int
theorem inT_fr : ∀ ms : List Int, frs (inT ms) = true := jg7
theorem inT_fz : ∀ ms : List Int, fzs (inT ms) = inT ms := jl5
end Q
namespace Q
open PySem PySem.Spec PyProof.Rows L2
theorem cut_to {xs : List T} {k : Int} (h : 0 ≤ k) : cutT xs none (some k) = xs.take k.toNat := by
  unfold cutT
  have e : HT.sIx xs.length xs.length (some k) = min k.toNat xs.length := by
    have := HT.sIx_nat xs.length xs.length k.toNat
    rw [show ((k.toNat : Nat) : Int) = k by omega] at this
    exact this
  rw [show HT.sIx xs.length 0 none = 0 from rfl, e, List.drop_zero, Nat.sub_zero, ← List.take_eq_take_min]
theorem jf4 : ∀ ls : List (List Nat), fzs (nmT ls) = nmT ls
  | [] => rfl
  | _ :: l => by
    have := jf4 l
    unfold nmT at this ⊢
    rw [List.map_cons, fzs, this]; rfl
structure Nms (ls : List (List Nat)) (k : Nat) : Prop where
  len : ls.length = k
  nm : ∀ l ∈ ls, nm l
  nd : ls.Nodup
theorem Nms.take {ls : List (List Nat)} {k j : Nat} (h : Nms ls k) (hj : j ≤ k) : Nms (ls.take j) j :=
  ⟨by rw [List.length_take, h.len]; omega, fun l hl => h.nm l (List.mem_of_mem_take hl), h.nd.sublist (List.take_sublist _ _)⟩
end Q
namespace Q
open PySem PySem.Spec PyProof.Rows L2
def Ent.In (la lb lh : List Nm) : Ent → Prop
  | .come _ _ g p _ _ => g ∈ lb ∧ p ∈ la
  | .go _ _ g p _ => g ∈ lb ∧ p ∈ la
  | .move _ _ g p q _ => g ∈ lb ∧ p ∈ la ∧ q ∈ la
  | .some _ _ g p q => g ∈ lb ∧ p ∈ la ∧ (q = [] ∨ q ∈ la)
  | .swap _ _ p q => p ∈ la ∧ q ∈ la
  | .count _ _ g p _ h => g ∈ lb ∧ p ∈ la ∧ h ∈ lh
  | .look _ _ g p => g ∈ lb ∧ p ∈ la
end Q
namespace Q
open PySem PySem.Spec PyProof.Rows L2
theorem pen_ok (ns : List Int) (h : ns.length ≤ 63) : jel [.lst false (ns.map .int)] = .ok (Pen.t ⟨ns, 0, 0⟩) [] := by
  have c : cutT (ns.map T.int) none (some 63) = ns.map T.int := by
    rw [cut_to (by omega), List.take_of_length_le (by simp; omega)]
  simp +decide [jel, jk5, Pen.t, jg7, jl5, c, fRun, sSeq, sIf, rTest, bTest, bNot, bAnd, bOr, rOp1, rOp2, rOp3, rOpN, rVar, rC, jdm, jdx, jdy, jdz, jd0, dGet, keyOk, T.leaf, T.tkey, T.beq, beqs, fCmp, int2, _root_.Q.R.fl, _root_.Q.R.bind, sSet, sAsg, sExpr, sRet, sRetN, sNil, dOf, fAddR, fSub, jb5, jau, jcp, jcq, jcr, fNeg, fAbs, fInt, fMax2, fMin2, jby, jbz, jb7, jb0, jb8, fEq, fNe, fIs, jc4, ja7, jco, ja8, ja9, jba, jbb, T.eqOk, T.pl, pls, T.dep, deps, T.eqv, eqvs, gPut, gPut0, jbc, jbd, jan, jbe, pName, pIx, upPut, pathT, ja0, ja1, putP, ja2, ja3, ja4, jcd, jce, jcf, posOf, outs, T.fr, frs, T.fz, fzs, dFz, dVar, dMove, vOp, vOp1, vOp2, bOp, dCons, dNil, fTup, fLst, fRep, jck, jcl, jcm, jcn, fro, dNot, dAnd, dOr, jcs, dDisp, dNewD, keyT, jdj, jbm, bndOf, jbu, jcg, jb1, ja5, ja6, jai, jaj, fIsi, fIsi2, T.noIns, T.isi, dIx0, noEx, dIno, dCall, jah, sFor, iSeq, jat, jbo, iStrT, jak, jal, jam, jaf, dComp, cLoop, bYes, wipeE, jar, jb9, jca, jcb, jb4, jcc, fNot, fJoin, jdu, dMeth, jdv, jcy, jdk, atK, T.isO, jch, jci, fKin, fKix, jbp, jcj, at_0, at_1, at_2, at_3, at_4, at_5, at_6, at_7, at_8, at_9, jdl, fOrd, sFrz]
def enT (es : List Ent) : List T := es.map Ent.t
theorem enT_fr : ∀ es : List Ent, frs (enT es) = true
  | [] => rfl
  | e :: es => by
    have := enT_fr es
    unfold enT at this ⊢
    rw [List.map_cons, frs, this, Ent.fr]; rfl
end Q
namespace Q
open PySem PySem.Spec PyProof.Rows L2
def Ent.rank : Ent → Int
  | .swap _ _ _ _ => 0
  | .count _ _ _ _ _ _ => 2
  | .look _ _ _ _ => 2
  | _ => 1
def Ent.ord (e : Ent) : T := .tup [.int e.mo, .int e.rank, sT e.nam]
end Q
namespace Q
open PySem PySem.Spec PyProof.Rows L2
end Q
namespace Q
open PySem PySem.Spec PyProof.Rows L2
@[simp] theorem sT_fr (a : Nm) : (sT a).fr = true := rfl
@[simp] theorem sT_fz (a : Nm) : (sT a).fz = sT a := rfl
@[simp] theorem sT_pl (a : Nm) : (sT a).pl = true := rfl
@[simp] theorem sT_dep (a : Nm) : (sT a).dep = 0 := rfl
@[simp] theorem sT_eqOk (a : Nm) : (sT a).eqOk = true := rfl
@[simp] theorem sT_leaf (a : Nm) : (sT a).leaf = true := rfl
@[simp] theorem sT_ins (a : Nm) : (sT a).noIns = true := rfl
@[simp] theorem sT_key (a : Nm) : keyOk false (sT a) = true := rfl
@[simp] theorem sT_non (a : Nm) : (sT a).isNon = false := rfl
@[simp] theorem sT_eqv (a b : Nm) : (sT a).eqv (sT b) = decide (a = b) := by
  show (SX.S a == SX.S b) = _
  rw [SX.S_beq_eq]
@[simp] theorem sT_beq (a b : Nm) : (sT a).beq (sT b) = decide (a = b) := by
  show (SX.S a == SX.S b) = _
  rw [SX.S_beq_eq]
theorem sT_inj {a b : Nm} (h : sT a = sT b) : a = b := by
  unfold sT at h
  injection h with h
  exact SX.S_inj h
@[simp] theorem sT_alk (a b : Nm) : (sT a).alk (sT b) = true := by simp [T.alk, sT, T.toD, PySem.W.alike]
theorem nmT_map (l : List Nm) : nmT l = l.map sT := rfl
@[simp] theorem nmT_pl : ∀ ls : List Nm, pls (nmT ls) = true
  | [] => rfl
  | _ :: l => nmT_pl l
@[simp] theorem nmT_dep : ∀ ls : List Nm, deps (nmT ls) = 0
  | [] => rfl
  | _ :: l => by
    show max 0 (deps (nmT l)) = 0
    rw [nmT_dep l]; rfl
theorem srtOk_of {α : Type} {f : α → T} {xs : List α} (h0 : xs.length ≤ 4000) (h1 : ∀ a ∈ xs, (f a).fr = true) (h2 : ∀ a ∈ xs, (f a).eqOk = true) (h3 : ∀ a ∈ xs, ∀ b ∈ xs, (f a).alk (f b) = true)
    (h4 : (∀ a ∈ xs, ∃ y r, f a = .tup (y :: r)) ∨ ∀ a ∈ xs, f a ≠ .non ∧ ∀ ys, f a ≠ .tup ys) : srtOk (xs.map f) = true := by
  simp only [srtOk, Bool.and_eq_true, decide_eq_true_eq, List.all_eq_true, Bool.or_eq_true, jjg, List.length_map, List.forall_mem_map]
  refine ⟨⟨⟨⟨h1, h0⟩, h2⟩, h3⟩, ?_⟩
  rcases h4 with h4 | h4
  · left
    intro a ha
    obtain ⟨y, r, e⟩ := h4 a ha
    rw [e]
  · right
    intro a ha
    obtain ⟨e1, e2⟩ := h4 a ha
    cases e : f a with
    | non => exact absurd e e1
    | tup ys => exact absurd e (e2 ys)
    | _ => rfl
def leN (a b : Nm) : Bool := !decide (b < a)
def sortN (l : List Nm) : List Nm := l.mergeSort leN
theorem le_sT (a b : Nm) : (sT a).le (sT b) = leN a b := by
  show (!PySem.W.dataLt (.str (SX.S b)) (.str (SX.S a))) = _
  rw [PySem.W.dataLt_str]
  unfold leN
  simp
theorem sort_nm (l : List Nm) : (nmT l).mergeSort T.le = nmT (sortN l) := by
  rw [nmT_map, nmT_map]
  exact (List.map_mergeSort (fun a _ b _ => (le_sT a b).symm)).symm
theorem sorted_nm {o : Bool} {l : List Nm} (h : l.length ≤ 4000) : jk2 [.lst o (nmT l)] = some (.lst true (nmT (sortN l))) := by
  have ok : srtOk (nmT l) = true := srtOk_of (f := sT) (xs := l) h (fun _ _ => rfl) (fun _ _ => rfl) (fun _ _ _ _ => sT_alk _ _) (.inr fun a _ => ⟨(fun z => by cases z), (fun ys z => by cases z)⟩)
  show (if srtOk (nmT l) = true then some (T.lst true ((nmT l).mergeSort T.le)) else none) = _
  rw [if_pos ok, sort_nm]
theorem ji8 (l : List Nm) : (sortN l).Perm l := List.mergeSort_perm l _
theorem leN_total (a b : Nm) : (leN a b || leN b a) = true := by
  unfold leN
  simp only [Bool.or_eq_true, Bool.not_eq_true', decide_eq_false_iff_not]
  exact Classical.or_iff_not_imp_left.mpr fun h => List.lt_asymm (Classical.not_not.mp h)
theorem leN_trans (a b c : Nm) (h1 : leN a b = true) (h2 : leN b c = true) : leN a c = true := by
  unfold leN at *
  simp only [Bool.not_eq_true', decide_eq_false_iff_not] at *
  exact List.le_trans (l₁ := a) (l₂ := b) (l₃ := c) h1 h2
theorem sortN_pw (l : List Nm) : (sortN l).Pairwise fun a b => leN a b = true := List.pairwise_mergeSort leN_trans leN_total l
end Q
namespace Q
open PySem PySem.Spec PyProof.Rows L2
theorem enT_fz : ∀ es : List Ent, fzs (enT es) = enT es
  | [] => rfl
  | e :: es => by
    have := enT_fz es
    unfold enT at this ⊢
    rw [List.map_cons, fzs, this]
    cases e <;> rfl
structure Hs where
  pl : List Nm
  gd : List Nm
  es : List Ent
def Hs.t (h : Hs) : T := .tup [.tup (nmT h.pl), .tup (nmT h.gd), .tup (enT h.es)]
def Ent.At (pl gd : List Nm) : Ent → Prop
  | .come _ _ g p _ _ => g ∈ gd ∧ p ∈ pl
  | .go _ _ g p _ => g ∈ gd ∧ p ∈ pl
  | .move _ _ g p q _ => g ∈ gd ∧ p ∈ pl ∧ q ∈ pl
  | .some _ _ g p q => g ∈ gd ∧ p ∈ pl ∧ (q = [] ∨ q ∈ pl)
  | .swap _ _ p q => p ∈ pl ∧ q ∈ pl
  | .count _ _ g p _ _ => g ∈ gd ∧ p ∈ pl
  | .look _ _ g p => g ∈ gd ∧ p ∈ pl
structure Hs.Ok (h : Hs) : Prop where
  pn : ∀ l ∈ h.pl, nm l
  pd : h.pl.Nodup
  ps : h.pl.Pairwise fun a b => leN a b = true
  p1 : 1 ≤ h.pl.length
  p6 : h.pl.length ≤ 6
  gn : ∀ l ∈ h.gd, nm l
  gdd : h.gd.Nodup
  gs : h.gd.Pairwise fun a b => leN a b = true
  g1 : 1 ≤ h.gd.length
  g3 : h.gd.length ≤ 3
  eo : ∀ e ∈ h.es, e.Ok
  ea : ∀ e ∈ h.es, e.At h.pl h.gd
  en : (h.es.map Ent.nam).Nodup
  e30 : h.es.length ≤ 30
@[simp] theorem ord_fr' (e : Ent) : e.ord.fr = true := rfl
@[simp] theorem ord_eqOk (e : Ent) : e.ord.eqOk = true := by simp [Ent.ord, T.eqOk, T.pl, pls, T.dep, deps]
theorem ord_alk (e f : Ent) : e.ord.alk f.ord = true := by simp [Ent.ord, sT, T.alk, T.toD, toDs, PySem.W.alike, PySem.W.alikeAll]
theorem Ent.In.at {e : Ent} {la lb lh pl gd : List Nm} (h : e.In la lb lh) (hp : ∀ x ∈ la, x ∈ pl) (hg : ∀ x ∈ lb, x ∈ gd) : e.At pl gd := by
  cases e with
  | come n t g p a c => exact ⟨hg _ h.1, hp _ h.2⟩
  | go n t g p a => exact ⟨hg _ h.1, hp _ h.2⟩
  | move n t g p q a => exact ⟨hg _ h.1, hp _ h.2.1, hp _ h.2.2⟩
  | some n t g p q => exact ⟨hg _ h.1, hp _ h.2.1, h.2.2.imp id (hp _)⟩
  | swap n t p q => exact ⟨hp _ h.1, hp _ h.2⟩
  | count n t g p a c => exact ⟨hg _ h.1, hp _ h.2.1⟩
  | look n t g p => exact ⟨hg _ h.1, hp _ h.2⟩
end Q
namespace Q
open PySem PySem.Spec PyProof.Rows L2
def Ent.ex (e : Ent) (p : Nm) : Nm := match e with
  | .swap _ _ a b => if p = a then b else if p = b then a else p
  | _ => p
def trk (es : List Ent) (p : Nm) : Nm := es.foldr (fun e t => e.ex t) p
theorem Hs.ix0 (h : Hs) : fIx [h.t, .int 0] = some (.tup (nmT h.pl)) := by simp +decide [Hs.t, fRun, sSeq, sIf, rTest, bTest, bNot, bAnd, bOr, rOp1, rOp2, rOp3, rOpN, rVar, rC, jdm, jdx, jdy, jdz, jd0, dGet, keyOk, T.leaf, T.tkey, T.beq, beqs, fCmp, int2, _root_.Q.R.fl, _root_.Q.R.bind, sSet, sAsg, sExpr, sRet, sRetN, sNil, dOf, fAddR, fSub, jb5, jau, jcp, jcq, jcr, fNeg, fAbs, fInt, fMax2, fMin2, jby, jbz, jb7, jb0, jb8, fEq, fNe, fIs, jc4, ja7, jco, ja8, ja9, jba, jbb, T.eqOk, T.pl, pls, T.dep, deps, T.eqv, eqvs, gPut, gPut0, jbc, jbd, jan, jbe, pName, pIx, upPut, pathT, ja0, ja1, putP, ja2, ja3, ja4, jcd, jce, jcf, posOf, outs, T.fr, frs, T.fz, fzs, dFz, dVar, dMove, vOp, vOp1, vOp2, bOp, dCons, dNil, fTup, fLst, fRep, jck, jcl, jcm, jcn, fro, dNot, dAnd, dOr, jcs, dDisp, dNewD, keyT, jdj, jbm, bndOf, jbu, jcg, jb1, ja5, ja6, jai, jaj, fIsi, fIsi2, T.noIns, T.isi, dIx0, noEx, dIno, dCall, jah, sFor, iSeq, jat, jbo, iStrT, jak, jal, jam, jaf, dComp, cLoop, bYes, wipeE, jar, jb9, jca, jcb, jb4, jcc, fNot, fJoin, jdu, dMeth, jdv, jcy, jdk, atK, T.isO, jch, jci, fKin, fKix, jbp, jcj, at_0, at_1, at_2, at_3, at_4, at_5, at_6, at_7, at_8, at_9, jdl, fOrd, sFrz]
theorem Hs.ix1 (h : Hs) : fIx [h.t, .int 1] = some (.tup (nmT h.gd)) := by simp +decide [Hs.t, fRun, sSeq, sIf, rTest, bTest, bNot, bAnd, bOr, rOp1, rOp2, rOp3, rOpN, rVar, rC, jdm, jdx, jdy, jdz, jd0, dGet, keyOk, T.leaf, T.tkey, T.beq, beqs, fCmp, int2, _root_.Q.R.fl, _root_.Q.R.bind, sSet, sAsg, sExpr, sRet, sRetN, sNil, dOf, fAddR, fSub, jb5, jau, jcp, jcq, jcr, fNeg, fAbs, fInt, fMax2, fMin2, jby, jbz, jb7, jb0, jb8, fEq, fNe, fIs, jc4, ja7, jco, ja8, ja9, jba, jbb, T.eqOk, T.pl, pls, T.dep, deps, T.eqv, eqvs, gPut, gPut0, jbc, jbd, jan, jbe, pName, pIx, upPut, pathT, ja0, ja1, putP, ja2, ja3, ja4, jcd, jce, jcf, posOf, outs, T.fr, frs, T.fz, fzs, dFz, dVar, dMove, vOp, vOp1, vOp2, bOp, dCons, dNil, fTup, fLst, fRep, jck, jcl, jcm, jcn, fro, dNot, dAnd, dOr, jcs, dDisp, dNewD, keyT, jdj, jbm, bndOf, jbu, jcg, jb1, ja5, ja6, jai, jaj, fIsi, fIsi2, T.noIns, T.isi, dIx0, noEx, dIno, dCall, jah, sFor, iSeq, jat, jbo, iStrT, jak, jal, jam, jaf, dComp, cLoop, bYes, wipeE, jar, jb9, jca, jcb, jb4, jcc, fNot, fJoin, jdu, dMeth, jdv, jcy, jdk, atK, T.isO, jch, jci, fKin, fKix, jbp, jcj, at_0, at_1, at_2, at_3, at_4, at_5, at_6, at_7, at_8, at_9, jdl, fOrd, sFrz]
theorem Hs.ix2 (h : Hs) : fIx [h.t, .int 2] = some (.tup (enT h.es)) := by simp +decide [Hs.t, fRun, sSeq, sIf, rTest, bTest, bNot, bAnd, bOr, rOp1, rOp2, rOp3, rOpN, rVar, rC, jdm, jdx, jdy, jdz, jd0, dGet, keyOk, T.leaf, T.tkey, T.beq, beqs, fCmp, int2, _root_.Q.R.fl, _root_.Q.R.bind, sSet, sAsg, sExpr, sRet, sRetN, sNil, dOf, fAddR, fSub, jb5, jau, jcp, jcq, jcr, fNeg, fAbs, fInt, fMax2, fMin2, jby, jbz, jb7, jb0, jb8, fEq, fNe, fIs, jc4, ja7, jco, ja8, ja9, jba, jbb, T.eqOk, T.pl, pls, T.dep, deps, T.eqv, eqvs, gPut, gPut0, jbc, jbd, jan, jbe, pName, pIx, upPut, pathT, ja0, ja1, putP, ja2, ja3, ja4, jcd, jce, jcf, posOf, outs, T.fr, frs, T.fz, fzs, dFz, dVar, dMove, vOp, vOp1, vOp2, bOp, dCons, dNil, fTup, fLst, fRep, jck, jcl, jcm, jcn, fro, dNot, dAnd, dOr, jcs, dDisp, dNewD, keyT, jdj, jbm, bndOf, jbu, jcg, jb1, ja5, ja6, jai, jaj, fIsi, fIsi2, T.noIns, T.isi, dIx0, noEx, dIno, dCall, jah, sFor, iSeq, jat, jbo, iStrT, jak, jal, jam, jaf, dComp, cLoop, bYes, wipeE, jar, jb9, jca, jcb, jb4, jcc, fNot, fJoin, jdu, dMeth, jdv, jcy, jdk, atK, T.isO, jch, jci, fKin, fKix, jbp, jcj, at_0, at_1, at_2, at_3, at_4, at_5, at_6, at_7, at_8, at_9, jdl, fOrd, sFrz]
theorem Hs.fr (h : Hs) : h.t.fr = true := by simp [Hs.t, T.fr, frs, jd1, enT_fr]
theorem Hs.fz (h : Hs) : h.t.fz = h.t := by simp [Hs.t, T.fz, fzs, jf4, enT_fz]
end Q
namespace Q
open PySem PySem.Spec PyProof.Rows L2
@[simp] theorem eix_come_0 (n : Nm) (t : Int) (g : Nm) (p : Nm) (a : Int) (c : Int) : fIx [(Ent.come n t g p a c).t, .int 0] = some (.str "come") := at_0
@[simp] theorem eix_come_1 (n : Nm) (t : Int) (g : Nm) (p : Nm) (a : Int) (c : Int) : fIx [(Ent.come n t g p a c).t, .int 1] = some (sT n) := at_1
@[simp] theorem eix_come_2 (n : Nm) (t : Int) (g : Nm) (p : Nm) (a : Int) (c : Int) : fIx [(Ent.come n t g p a c).t, .int 2] = some (.int t) := at_2
@[simp] theorem eix_come_3 (n : Nm) (t : Int) (g : Nm) (p : Nm) (a : Int) (c : Int) : fIx [(Ent.come n t g p a c).t, .int 3] = some (sT g) := at_3
@[simp] theorem eix_come_4 (n : Nm) (t : Int) (g : Nm) (p : Nm) (a : Int) (c : Int) : fIx [(Ent.come n t g p a c).t, .int 4] = some (sT p) := at_4
@[simp] theorem eix_come_5 (n : Nm) (t : Int) (g : Nm) (p : Nm) (a : Int) (c : Int) : fIx [(Ent.come n t g p a c).t, .int 5] = some (.int a) := at_5
@[simp] theorem eix_come_6 (n : Nm) (t : Int) (g : Nm) (p : Nm) (a : Int) (c : Int) : fIx [(Ent.come n t g p a c).t, .int 6] = some (.int c) := at_6
@[simp] theorem elen_come (n : Nm) (t : Int) (g : Nm) (p : Nm) (a : Int) (c : Int) : fLen [(Ent.come n t g p a c).t] = some (.int 7) := rfl
@[simp] theorem eix_go_0 (n : Nm) (t : Int) (g : Nm) (p : Nm) (a : Int) : fIx [(Ent.go n t g p a).t, .int 0] = some (.str "go") := at_0
@[simp] theorem eix_go_1 (n : Nm) (t : Int) (g : Nm) (p : Nm) (a : Int) : fIx [(Ent.go n t g p a).t, .int 1] = some (sT n) := at_1
@[simp] theorem eix_go_2 (n : Nm) (t : Int) (g : Nm) (p : Nm) (a : Int) : fIx [(Ent.go n t g p a).t, .int 2] = some (.int t) := at_2
@[simp] theorem eix_go_3 (n : Nm) (t : Int) (g : Nm) (p : Nm) (a : Int) : fIx [(Ent.go n t g p a).t, .int 3] = some (sT g) := at_3
@[simp] theorem eix_go_4 (n : Nm) (t : Int) (g : Nm) (p : Nm) (a : Int) : fIx [(Ent.go n t g p a).t, .int 4] = some (sT p) := at_4
@[simp] theorem eix_go_5 (n : Nm) (t : Int) (g : Nm) (p : Nm) (a : Int) : fIx [(Ent.go n t g p a).t, .int 5] = some (.int a) := at_5
@[simp] theorem elen_go (n : Nm) (t : Int) (g : Nm) (p : Nm) (a : Int) : fLen [(Ent.go n t g p a).t] = some (.int 6) := rfl
@[simp] theorem eix_move_0 (n : Nm) (t : Int) (g : Nm) (p : Nm) (q : Nm) (a : Int) : fIx [(Ent.move n t g p q a).t, .int 0] = some (.str "move") := at_0
@[simp] theorem eix_move_1 (n : Nm) (t : Int) (g : Nm) (p : Nm) (q : Nm) (a : Int) : fIx [(Ent.move n t g p q a).t, .int 1] = some (sT n) := at_1
@[simp] theorem eix_move_2 (n : Nm) (t : Int) (g : Nm) (p : Nm) (q : Nm) (a : Int) : fIx [(Ent.move n t g p q a).t, .int 2] = some (.int t) := at_2
@[simp] theorem eix_move_3 (n : Nm) (t : Int) (g : Nm) (p : Nm) (q : Nm) (a : Int) : fIx [(Ent.move n t g p q a).t, .int 3] = some (sT g) := at_3
@[simp] theorem eix_move_4 (n : Nm) (t : Int) (g : Nm) (p : Nm) (q : Nm) (a : Int) : fIx [(Ent.move n t g p q a).t, .int 4] = some (sT p) := at_4
@[simp] theorem eix_move_5 (n : Nm) (t : Int) (g : Nm) (p : Nm) (q : Nm) (a : Int) : fIx [(Ent.move n t g p q a).t, .int 5] = some (sT q) := at_5
@[simp] theorem eix_move_6 (n : Nm) (t : Int) (g : Nm) (p : Nm) (q : Nm) (a : Int) : fIx [(Ent.move n t g p q a).t, .int 6] = some (.int a) := at_6
@[simp] theorem elen_move (n : Nm) (t : Int) (g : Nm) (p : Nm) (q : Nm) (a : Int) : fLen [(Ent.move n t g p q a).t] = some (.int 7) := rfl
@[simp] theorem eix_some_0 (n : Nm) (t : Int) (g : Nm) (p : Nm) (q : Nm) : fIx [(Ent.some n t g p q).t, .int 0] = some (.str "some") := at_0
@[simp] theorem eix_some_1 (n : Nm) (t : Int) (g : Nm) (p : Nm) (q : Nm) : fIx [(Ent.some n t g p q).t, .int 1] = some (sT n) := at_1
@[simp] theorem eix_some_2 (n : Nm) (t : Int) (g : Nm) (p : Nm) (q : Nm) : fIx [(Ent.some n t g p q).t, .int 2] = some (.int t) := at_2
@[simp] theorem eix_some_3 (n : Nm) (t : Int) (g : Nm) (p : Nm) (q : Nm) : fIx [(Ent.some n t g p q).t, .int 3] = some (sT g) := at_3
@[simp] theorem eix_some_4 (n : Nm) (t : Int) (g : Nm) (p : Nm) (q : Nm) : fIx [(Ent.some n t g p q).t, .int 4] = some (sT p) := at_4
@[simp] theorem eix_some_5 (n : Nm) (t : Int) (g : Nm) (p : Nm) (q : Nm) : fIx [(Ent.some n t g p q).t, .int 5] = some (sT q) := at_5
@[simp] theorem elen_some (n : Nm) (t : Int) (g : Nm) (p : Nm) (q : Nm) : fLen [(Ent.some n t g p q).t] = some (.int 6) := rfl
@[simp] theorem eix_swap_0 (n : Nm) (t : Int) (p : Nm) (q : Nm) : fIx [(Ent.swap n t p q).t, .int 0] = some (.str "swap") := at_0
@[simp] theorem eix_swap_1 (n : Nm) (t : Int) (p : Nm) (q : Nm) : fIx [(Ent.swap n t p q).t, .int 1] = some (sT n) := at_1
@[simp] theorem eix_swap_2 (n : Nm) (t : Int) (p : Nm) (q : Nm) : fIx [(Ent.swap n t p q).t, .int 2] = some (.int t) := at_2
@[simp] theorem eix_swap_3 (n : Nm) (t : Int) (p : Nm) (q : Nm) : fIx [(Ent.swap n t p q).t, .int 3] = some (sT p) := at_3
@[simp] theorem eix_swap_4 (n : Nm) (t : Int) (p : Nm) (q : Nm) : fIx [(Ent.swap n t p q).t, .int 4] = some (sT q) := at_4
@[simp] theorem elen_swap (n : Nm) (t : Int) (p : Nm) (q : Nm) : fLen [(Ent.swap n t p q).t] = some (.int 5) := rfl
@[simp] theorem eix_count_0 (n : Nm) (t : Int) (g : Nm) (p : Nm) (a : Int) (h : Nm) : fIx [(Ent.count n t g p a h).t, .int 0] = some (.str "count") := at_0
@[simp] theorem eix_count_1 (n : Nm) (t : Int) (g : Nm) (p : Nm) (a : Int) (h : Nm) : fIx [(Ent.count n t g p a h).t, .int 1] = some (sT n) := at_1
@[simp] theorem eix_count_2 (n : Nm) (t : Int) (g : Nm) (p : Nm) (a : Int) (h : Nm) : fIx [(Ent.count n t g p a h).t, .int 2] = some (.int t) := at_2
@[simp] theorem eix_count_3 (n : Nm) (t : Int) (g : Nm) (p : Nm) (a : Int) (h : Nm) : fIx [(Ent.count n t g p a h).t, .int 3] = some (sT g) := at_3
@[simp] theorem eix_count_4 (n : Nm) (t : Int) (g : Nm) (p : Nm) (a : Int) (h : Nm) : fIx [(Ent.count n t g p a h).t, .int 4] = some (sT p) := at_4
@[simp] theorem eix_count_5 (n : Nm) (t : Int) (g : Nm) (p : Nm) (a : Int) (h : Nm) : fIx [(Ent.count n t g p a h).t, .int 5] = some (.int a) := at_5
@[simp] theorem eix_count_6 (n : Nm) (t : Int) (g : Nm) (p : Nm) (a : Int) (h : Nm) : fIx [(Ent.count n t g p a h).t, .int 6] = some (sT h) := at_6
@[simp] theorem elen_count (n : Nm) (t : Int) (g : Nm) (p : Nm) (a : Int) (h : Nm) : fLen [(Ent.count n t g p a h).t] = some (.int 7) := rfl
@[simp] theorem eix_look_0 (n : Nm) (t : Int) (g : Nm) (p : Nm) : fIx [(Ent.look n t g p).t, .int 0] = some (.str "look") := at_0
@[simp] theorem eix_look_1 (n : Nm) (t : Int) (g : Nm) (p : Nm) : fIx [(Ent.look n t g p).t, .int 1] = some (sT n) := at_1
@[simp] theorem eix_look_2 (n : Nm) (t : Int) (g : Nm) (p : Nm) : fIx [(Ent.look n t g p).t, .int 2] = some (.int t) := at_2
@[simp] theorem eix_look_3 (n : Nm) (t : Int) (g : Nm) (p : Nm) : fIx [(Ent.look n t g p).t, .int 3] = some (sT g) := at_3
@[simp] theorem eix_look_4 (n : Nm) (t : Int) (g : Nm) (p : Nm) : fIx [(Ent.look n t g p).t, .int 4] = some (sT p) := at_4
@[simp] theorem elen_look (n : Nm) (t : Int) (g : Nm) (p : Nm) : fLen [(Ent.look n t g p).t] = some (.int 5) := rfl
@[simp] theorem ent_fr (e : Ent) : e.t.fr = true := e.fr
@[simp] theorem ent_fz (e : Ent) : e.t.fz = e.t := by cases e <;> rfl
@[simp] theorem ent_eqOk (e : Ent) : e.t.eqOk = true := by cases e <;> simp [Ent.t, T.eqOk, T.pl, pls, T.dep, deps]
@[simp] theorem ent_pl (e : Ent) : e.t.pl = true := by cases e <;> simp [Ent.t, T.pl, pls]
theorem if_yes {t : Db} {a b : Ds} {ρ ρ1 : Env} {f : Fl} (h : t ρ = .ok (true, ρ1)) (h2 : a ρ1 = f) : sIf t a b ρ = f := by
  unfold sIf
  rw [h]
  exact h2
end Q
namespace Q
open PySem PySem.Spec PyProof.Rows L2
end Q
namespace Q
open PySem PySem.Spec PyProof.Rows L2
mutual
theorem toD_fz : ∀ t : T, t.fz.toD = t.toD
  | .non => rfl
  | .bl _ => rfl
  | .int _ => rfl
  | .str _ => rfl
  | .tup xs => by rw [T.fz, T.toD, T.toD, jok xs]
  | .con xs => rfl
  | .lst _ xs => by rw [T.fz, T.toD, T.toD, jok xs]
  | .dic _ _ _ _ => rfl
  | .ins _ _ _ _ => rfl
theorem jok : ∀ ts : List T, toDs (fzs ts) = toDs ts
  | [] => rfl
  | t :: ts => by rw [fzs, toDs, toDs, toD_fz t, jok ts]
end
mutual
theorem pl_fz' : ∀ t : T, t.fz.pl = t.pl
  | .non => rfl
  | .bl _ => rfl
  | .int _ => rfl
  | .str _ => rfl
  | .tup xs => by rw [T.fz, T.pl, T.pl, jol xs]
  | .con xs => rfl
  | .lst _ xs => by rw [T.fz, T.pl, T.pl, jol xs]
  | .dic _ _ _ _ => rfl
  | .ins _ _ _ _ => rfl
theorem jol : ∀ ts : List T, pls (fzs ts) = pls ts
  | [] => rfl
  | t :: ts => by rw [fzs, pls, pls, pl_fz' t, jol ts]
end
mutual
theorem dep_fz' : ∀ t : T, t.fz.dep = t.dep
  | .non => rfl
  | .bl _ => rfl
  | .int _ => rfl
  | .str _ => rfl
  | .tup xs => by rw [T.fz, T.dep, T.dep, jl7 xs]
  | .con xs => rfl
  | .lst _ xs => by rw [T.fz, T.dep, T.dep, jl7 xs]
  | .dic _ _ _ _ => rfl
  | .ins _ _ _ _ => rfl
theorem jl7 : ∀ ts : List T, deps (fzs ts) = deps ts
  | [] => rfl
  | t :: ts => by rw [fzs, deps, deps, dep_fz' t, jl7 ts]
end
def rp (t : T) : Str := t.toD.shown
theorem rp_fz (t : T) : rp t.fz = rp t := by unfold rp; rw [toD_fz]
theorem repr_fz (t : T) : fRepr [t.fz] = fRepr [t] := by
  show (if t.fz.eqOk = true ∧ t.fz.toD.showable = true ∧ t.fz.toD.shown.length ≤ sizeLine then some (T.str t.fz.toD.shown) else none) = _
  unfold T.eqOk
  rw [toD_fz, pl_fz', dep_fz']
  rfl
structure Sm (t : T) (n d : Nat) : Prop where
  pl : t.pl = true
  dep : t.dep ≤ d
  shw : t.toD.showable = true
  lv : t.toD.leavesShort 600 = true
  bulk : t.toD.bulk ≤ n
structure Sms (t : List T) (n d : Nat) : Prop where
  pl : pls t = true
  dep : deps t ≤ d
  shw : PyData.showableAll (toDs t) = true
  lv : PyData.leavesShortAll 600 (toDs t) = true
  bulk : PyData.bulkAll (toDs t) ≤ n
theorem Sm.mono {t : T} {n m d e : Nat} (h : Sm t n d) (h1 : n ≤ m) (h2 : d ≤ e) : Sm t m e := ⟨h.pl, Nat.le_trans h.dep h2, h.shw, h.lv, Nat.le_trans h.bulk h1⟩
theorem Sms.mono {t : List T} {n m d e : Nat} (h : Sms t n d) (h1 : n ≤ m) (h2 : d ≤ e) : Sms t m e := ⟨h.pl, Nat.le_trans h.dep h2, h.shw, h.lv, Nat.le_trans h.bulk h1⟩
theorem Sm.non {d : Nat} : Sm .non 0 d := ⟨rfl, Nat.zero_le _, rfl, rfl, Nat.le_refl _⟩
theorem Sm.bl {b : Bool} {d : Nat} : Sm (.bl b) 0 d := ⟨rfl, Nat.zero_le _, rfl, rfl, Nat.le_refl _⟩
theorem Sm.int {i : Int} {d : Nat} (h : i.natAbs < 2 ^ 250) : Sm (.int i) 0 d := by
  have lg : i.natAbs.log2 < 250 := by
    by_cases z : i.natAbs = 0
    · rw [z]; decide
    · exact (Nat.log2_lt z).mpr h
  refine ⟨rfl, Nat.zero_le _, ?_, ?_, Nat.le_refl _⟩
  · show decide (i.natAbs.log2 < 1920) = true
    rw [decide_eq_true_eq]
    omega
  · show decide ((PyData.shown (.int i)).length ≤ 600) = true
    rw [decide_eq_true_eq]
    have e : (PyData.shown (.int i)).length = (toString i).length := PySem.ofString_length _
    rw [e]
    have := PySem.int_text_length_le (a := i) (k := 250) (by decide) lg
    omega
theorem Sm.str {z : Str} {d : Nat} (h : ∀ c ∈ z.cps.toList, c < 16 ^ 8) : Sm (.str z) z.cps.size d := by
  refine ⟨rfl, Nat.zero_le _, rfl, ?_, Nat.le_refl _⟩
  show (z.cps.toList.all fun c => decide (c < 16 ^ 8)) = true
  rw [List.all_eq_true]
  exact fun c hc => decide_eq_true (h c hc)
theorem Sms.nil {d : Nat} : Sms [] 0 d := ⟨rfl, Nat.zero_le _, rfl, rfl, Nat.le_refl _⟩
theorem Sms.cons {t : T} {ts : List T} {n m d : Nat} (h : Sm t n d) (hs : Sms ts m d) : Sms (t :: ts) (n + 1 + m) d := by
  refine ⟨by rw [pls, h.pl, hs.pl]; rfl, by rw [deps]; exact Nat.max_le.mpr ⟨h.dep, hs.dep⟩, by rw [toDs, PyData.showableAll, h.shw, hs.shw]; rfl, by rw [toDs, PyData.leavesShortAll, h.lv, hs.lv]; rfl, ?_⟩
  rw [toDs, PyData.bulkAll]
  have := h.bulk
  have := hs.bulk
  omega
theorem Sms.map {α : Type} {f : α → T} {n d : Nat} : ∀ {xs : List α}, (∀ a ∈ xs, Sm (f a) n d) → Sms (xs.map f) (xs.length * (n + 1)) d
  | [], _ => by simpa using Sms.nil
  | x :: xs, h => by
    have := Sms.cons (h x List.mem_cons_self) (Sms.map fun a ha => h a (List.mem_cons_of_mem _ ha))
    refine this.mono ?_ (Nat.le_refl _)
    rw [List.length_cons, Nat.add_mul]
    omega
theorem Sm.tup {ts : List T} {n d : Nat} (h : Sms ts n d) : Sm (.tup ts) n (d + 1) :=
  ⟨by rw [T.pl]; exact h.pl, by rw [T.dep]; exact Nat.succ_le_succ h.dep, by rw [T.toD, PyData.showable]; exact h.shw, by rw [T.toD, PyData.leavesShort]; exact h.lv, by rw [T.toD, PyData.bulk]; exact h.bulk⟩
theorem Sm.lst {o : Bool} {ts : List T} {n d : Nat} (h : Sms ts n d) : Sm (.lst o ts) n (d + 1) :=
  ⟨by rw [T.pl]; exact h.pl, by rw [T.dep]; exact Nat.succ_le_succ h.dep, by rw [T.toD, PyData.showable]; exact h.shw, by rw [T.toD, PyData.leavesShort]; exact h.lv, by rw [T.toD, PyData.bulk]; exact h.bulk⟩
theorem Sm.repr {t : T} {n d : Nat} (h : Sm t n d) (hn : n ≤ 20000 := by omega) (hd : d ≤ 60 := by omega) : fRepr [t] = some (.str (rp t)) := by
  have b := PyData.shown_le_bulk 600 (by omega) t.toD h.lv
  have := h.bulk
  have l : t.toD.shown.length ≤ sizeLine := by
    rw [sizeLine_eq]
    have : (600 + 2) * t.toD.bulk ≤ 602 * 20000 := Nat.mul_le_mul_left _ (by omega)
    omega
  show (if t.eqOk = true ∧ t.toD.showable = true ∧ t.toD.shown.length ≤ sizeLine then some (T.str t.toD.shown) else none) = _
  rw [if_pos ⟨by unfold T.eqOk; rw [h.pl, Bool.true_and, decide_eq_true_eq]; exact Nat.le_trans h.dep hd, h.shw, l⟩]
  rfl
theorem Sm.eqOk {t : T} {n d : Nat} (h : Sm t n d) (hd : d ≤ 60 := by omega) : t.eqOk = true := by
  unfold T.eqOk
  rw [h.pl, Bool.true_and, decide_eq_true_eq]
  exact Nat.le_trans h.dep hd
theorem Sm.nm {l : Nm} {d : Nat} (h : nm l) : Sm (sT l) 8 d := by
  refine (Sm.str (z := SX.S l) (d := d) fun c hc => ?_).mono ?_ (Nat.le_refl _)
  · have : c ∈ l := by simpa using hc
    have := h.2.2 c this
    unfold low at this
    omega
  · have := h.2.1
    simpa using this
theorem Sm.nil_ {d : Nat} : Sm (sT []) 8 d := (Sm.str (z := SX.S []) fun c hc => by simp at hc).mono (by simp) (Nat.le_refl _)
theorem Sm.word {z : Str} {d : Nat} (h1 : z.cps.size ≤ 5) (h2 : (z.cps.toList.all fun c => decide (c < 1000)) = true) : Sm (.str z) 5 d := by
  refine (Sm.str fun c hc => ?_).mono h1 (Nat.le_refl _)
  rw [List.all_eq_true] at h2
  have := h2 c hc
  rw [decide_eq_true_eq] at this
  omega
theorem Sm.mom {t : Int} {d : Nat} (h : mom t) : Sm (.int t) 0 d := Sm.int (Nat.lt_of_lt_of_le (show t.natAbs < 10000 by have := h.1; have := h.2; omega) (by decide))
theorem Sm.amt {lo t : Int} {d : Nat} (h : amt lo t) (h0 : 0 ≤ lo) : Sm (.int t) 0 d := Sm.int (Nat.lt_of_lt_of_le (show t.natAbs < 1000000001 by have := h.1; have := h.2; omega) (by decide))
theorem Sm.ent {e : Ent} (h : e.Ok) : Sm e.t 60 1 := by
  cases e with
  | come n t g p a c =>
    obtain ⟨h1, h2, h3, h4, h5, h6⟩ := h
    exact (Sm.tup (d := 0) (.cons (.word (by decide) (by decide)) (.cons (.nm h1) (.cons (.mom h2) (.cons (.nm h3) (.cons (.nm h4) (.cons (.amt h5 (by omega)) (.cons (.amt h6 (by omega)) .nil)))))))).mono (by omega) (by omega)
  | go n t g p a =>
    obtain ⟨h1, h2, h3, h4, h5⟩ := h
    exact (Sm.tup (d := 0) (.cons (.word (by decide) (by decide)) (.cons (.nm h1) (.cons (.mom h2) (.cons (.nm h3) (.cons (.nm h4) (.cons (.amt h5 (by omega)) .nil))))))).mono (by omega) (by omega)
  | move n t g p q a =>
    obtain ⟨h1, h2, h3, h4, h5, h6, h7⟩ := h
    exact (Sm.tup (d := 0) (.cons (.word (by decide) (by decide)) (.cons (.nm h1) (.cons (.mom h2) (.cons (.nm h3) (.cons (.nm h4) (.cons (.nm h5) (.cons (.amt h7 (by omega)) .nil)))))))).mono (by omega) (by omega)
  | some n t g p q =>
    obtain ⟨h1, h2, h3, h4, h5⟩ := h
    have hq : ∀ d, Sm (sT q) 8 d := fun d => by
      rcases h5 with rfl | ⟨h5, _⟩
      · exact .nil_
      · exact .nm h5
    exact (Sm.tup (d := 0) (.cons (.word (by decide) (by decide)) (.cons (.nm h1) (.cons (.mom h2) (.cons (.nm h3) (.cons (.nm h4) (.cons (hq 0) .nil))))))).mono (by omega) (by omega)
  | swap n t p q =>
    obtain ⟨h1, h2, h3, h4, h5⟩ := h
    exact (Sm.tup (d := 0) (.cons (.word (by decide) (by decide)) (.cons (.nm h1) (.cons (.mom h2) (.cons (.nm h3) (.cons (.nm h4) .nil)))))).mono (by omega) (by omega)
  | count n t g p a h' =>
    obtain ⟨h1, h2, h3, h4, h5, h6⟩ := h
    exact (Sm.tup (d := 0) (.cons (.word (by decide) (by decide)) (.cons (.nm h1) (.cons (.mom h2) (.cons (.nm h3) (.cons (.nm h4) (.cons (.amt h5 (by omega)) (.cons (.nm h6) .nil)))))))).mono (by omega) (by omega)
  | look n t g p =>
    obtain ⟨h1, h2, h3, h4⟩ := h
    exact (Sm.tup (d := 0) (.cons (.word (by decide) (by decide)) (.cons (.nm h1) (.cons (.mom h2) (.cons (.nm h3) (.cons (.nm h4) .nil)))))).mono (by omega) (by omega)
end Q
namespace Q
open PySem PySem.Spec PyProof.Rows L2
theorem nz_sT {a : Nm} : NZ (sT a) (sT a) := ⟨rfl⟩
theorem nz_nm {l : List Nm} : NZs (nmT l) (nmT l) := ⟨jf4 l⟩
theorem nz_en {l : List Ent} : NZs (enT l) (enT l) := ⟨enT_fz l⟩
theorem nz_in {l : List Int} : NZs (inT l) (inT l) := ⟨inT_fz l⟩
theorem nz_ent {e : Ent} : NZ e.t e.t := ⟨ent_fz e⟩
theorem nz_hs {h : Hs} : NZ h.t h.t := ⟨h.fz⟩
theorem o_p9 : fPow [.int 10, .int 9] = some (.int 1000000000) := by simp +decide [fRun, sSeq, sIf, rTest, bTest, bNot, bAnd, bOr, rOp1, rOp2, rOp3, rOpN, rVar, rC, jdm, jdx, jdy, jdz, jd0, dGet, keyOk, T.leaf, T.tkey, T.beq, beqs, fCmp, int2, _root_.Q.R.fl, _root_.Q.R.bind, sSet, sAsg, sExpr, sRet, sRetN, sNil, dOf, fAddR, fSub, jb5, jau, jcp, jcq, jcr, fNeg, fAbs, fInt, fMax2, fMin2, jby, jbz, jb7, jb0, jb8, fEq, fNe, fIs, jc4, ja7, jco, ja8, ja9, jba, jbb, T.eqOk, T.pl, pls, T.dep, deps, T.eqv, eqvs, gPut, gPut0, jbc, jbd, jan, jbe, pName, pIx, upPut, pathT, ja0, ja1, putP, ja2, ja3, ja4, jcd, jce, jcf, posOf, outs, T.fr, frs, T.fz, fzs, dFz, dVar, dMove, vOp, vOp1, vOp2, bOp, dCons, dNil, fTup, fLst, fRep, jck, jcl, jcm, jcn, fro, dNot, dAnd, dOr, jcs, dDisp, dNewD, keyT, jdj, jbm, bndOf, jbu, jcg, jb1, ja5, ja6, jai, jaj, fIsi, fIsi2, T.noIns, T.isi, dIx0, noEx, dIno, dCall, jah, sFor, iSeq, jat, jbo, iStrT, jak, jal, jam, jaf, dComp, cLoop, bYes, wipeE, jar, jb9, jca, jcb, jb4, jcc, fNot, fJoin, jdu, dMeth, jdv, jcy, jdk, atK, T.isO, jch, jci, fKin, fKix, jbp, jcj, at_0, at_1, at_2, at_3, at_4, at_5, at_6, at_7, at_8, at_9, jdl, fOrd, sFrz]
theorem jg8 (a : Str) : fNe [.str a, .str a] = some (.bl false) := by
  show some (T.bl (!(a == a))) = _
  rw [beq_self_eq_true]; rfl
theorem jg9 (a : Str) : fEq [.str a, .str a] = some (.bl true) := by
  show some (T.bl (a == a)) = _
  rw [beq_self_eq_true]
def daK : Bool → De → De
  | true, d => d
  | false, _ => fun ρ => .ok (.bl false, ρ)
def doK : Bool → De → De
  | true, _ => fun ρ => .ok (.bl true, ρ)
  | false, d => d
section
variable {ρ ρ1 : Env}
theorem ev_and {d d' : De} {c c' : Bool} {x : R (T × Env)} (h : d ρ = .ok (.bl c, ρ1)) (hc : NBo c c') (h2 : daK c' d' ρ1 = x) : dAnd d d' ρ = x := by
  unfold dAnd; rw [h, hc.e]; cases c' <;> exact h2
theorem ev_or {d d' : De} {c c' : Bool} {x : R (T × Env)} (h : d ρ = .ok (.bl c, ρ1)) (hc : NBo c c') (h2 : doK c' d' ρ1 = x) : dOr d d' ρ = x := by
  unfold dOr; rw [h, hc.e]; cases c' <;> exact h2
theorem da_t {d : De} {x : R (T × Env)} (h : d ρ = x) : daK true d ρ = x := h
theorem da_f {d : De} : daK false d ρ = .ok (.bl false, ρ) := rfl
theorem do_t {d : De} : doK true d ρ = .ok (.bl true, ρ) := rfl
theorem do_f {d : De} {x : R (T × Env)} (h : d ρ = x) : doK false d ρ = x := h
end
end Q
namespace Q
open PySem PySem.Spec PyProof.Rows L2
section
variable {ρ ρ1 ρ2 ρ3 : Env} {t : T} {L ns : List Str} {i j : Nat} {ks us : List T}
theorem ev_raise {c : Str} : sRaise c ρ = .ex ⟨c, none⟩ ρ := rfl
def tryK (L : List Str) (i j : Nat) : Fl → Fl
  | .ex x ρ' => if L.contains x.c = true then .nx (((ρ'.set i (some (exT x))).set j (some (exT x))).set i none) else .bad
  | f => f
theorem ev_try {b : Ds} {x f : Fl} (h : b ρ = x) (h2 : tryK L i j x = f) : sTry L i j b ρ = f := by
  unfold sTry
  rw [h]
  cases x <;> exact h2
theorem yk_nx : tryK L i j (.nx ρ) = .nx ρ := rfl
theorem yk_rt : tryK L i j (.rt t ρ) = .rt t ρ := rfl
theorem yk_ex {c : Str} (hc : NBo (L.contains c) true) (e1 : NE (ρ.set i (some (.ins false c [] []))) ρ1) (e2 : NE (ρ1.set j (some (.ins false c [] []))) ρ2) (e3 : NE (ρ2.set i none) ρ3) : tryK L i j (.ex ⟨c, none⟩ ρ) = .nx ρ3 := by
  rw [← e3.e, ← e2.e, ← e1.e]
  exact if_pos hc.e
theorem ev_dict {o : Bool} (h : AT ρ i (some (.dic o false ks us))) : iDict i ρ = .ok (ks, ρ) := by
  unfold iDict
  rw [jet h]
theorem ev_lk {d : De} (h : AT ρ i (some (.dic false false ks us))) (h2 : d ρ = .ok (t, ρ1)) : dLk i d ρ = .ok (t, ρ1) := by
  unfold dLk
  rw [jet h]
  simp only [h2]
theorem eo_isEn : fIsE L ns [.non] = some (.bl false) := rfl
theorem eo_isE {o b : Bool} {c : Str} (hc : NBo (L.contains c) true) (hb : NBo (ns.any (isaE c)) b) : fIsE L ns [.ins o c [] []] = some (.bl b) := by
  rw [← hb.e]
  exact if_pos hc.e
end
end Q
--@macro
local macro_rules | `(tactic| wide_open with (5, $fs,*)) => `(tactic| (with_reducible apply Q.nb_no; simp +decide [$[$fs:term],*, Q.T.isNon]; done))
local macro_rules | `(tactic| wide_open with (5, $fs,*)) => `(tactic| (with_reducible apply Q.nb_yes; simp +decide [$[$fs:term],*, Q.T.isNon]; done))
local macro_rules | `(tactic| wide_open with (5, $fs,*)) => `(tactic| (with_reducible apply Q.nb_no; rfl))
local macro_rules | `(tactic| wide_open with (5, $fs,*)) => `(tactic| (with_reducible apply Q.nb_yes; rfl))
local macro_rules | `(tactic| wide_open with (5, $fs,*)) => `(tactic| (with_reducible apply Q.nb_no; (first | decide +kernel | with_reducible assumption $[| with_reducible exact $fs]*)))
local macro_rules | `(tactic| wide_open with (5, $fs,*)) => `(tactic| (with_reducible apply Q.nb_yes; (first | decide +kernel | with_reducible assumption $[| with_reducible exact $fs]*)))
local macro_rules | `(tactic| wide_open with (5, $fs,*)) => `(tactic| with_reducible exact Q.nb_f)
local macro_rules | `(tactic| wide_open with (5, $fs,*)) => `(tactic| with_reducible exact Q.nb_t)
local macro_rules | `(tactic| wide_open with (22, $fs,*)) => `(tactic| with_reducible apply Q.ev_up0)
local macro_rules | `(tactic| wide_open with (22, $fs,*)) => `(tactic| with_reducible apply Q.ev_gp0)
local macro_rules | `(tactic| wide_open with (22, $fs,*)) => `(tactic| with_reducible apply Q.ev_gp)
local macro_rules | `(tactic| wide_open with (22, $fs,*)) => `(tactic| with_reducible apply Q.ev_gc)
local macro_rules | `(tactic| wide_open with (22, $fs,*)) => `(tactic| with_reducible exact Q.ev_gn)
local macro_rules | `(tactic| wide_open with (22, $fs,*)) => `(tactic| with_reducible apply Q.ev_gt)
local macro_rules | `(tactic| wide_open with (22, $fs,*)) => `(tactic| with_reducible apply Q.ev_gs)
local macro_rules | `(tactic| wide_open with (22, $fs,*)) => `(tactic| with_reducible apply Q.pb_v)
local macro_rules | `(tactic| wide_open with (22, $fs,*)) => `(tactic| with_reducible apply Q.pb_c)
local macro_rules | `(tactic| wide_open with (22, $fs,*)) => `(tactic| with_reducible exact Q.pb_n)
local macro_rules | `(tactic| wide_open with (21, $fs,*)) => `(tactic| with_reducible apply Q.outs_c)
local macro_rules | `(tactic| wide_open with (21, $fs,*)) => `(tactic| with_reducible exact Q.outs_n)
local macro_rules | `(tactic| wide_open with (21, $fs,*)) => `(tactic| with_reducible apply Q.it_con)
local macro_rules | `(tactic| wide_open with (21, $fs,*)) => `(tactic| with_reducible apply Q.it_lst)
local macro_rules | `(tactic| wide_open with (21, $fs,*)) => `(tactic| with_reducible apply Q.it_tup)
local macro_rules | `(tactic| wide_open with (21, $fs,*)) => `(tactic| with_reducible apply Q.ev_rsC)
local macro_rules | `(tactic| wide_open with (21, $fs,*)) => `(tactic| with_reducible exact Q.ev_rsN)
local macro_rules | `(tactic| wide_open with (20, $fs,*)) => `(tactic| with_reducible apply Q.nzs_c)
local macro_rules | `(tactic| wide_open with (20, $fs,*)) => `(tactic| with_reducible exact Q.nzs_n)
local macro_rules | `(tactic| wide_open with (20, $fs,*)) => `(tactic| with_reducible exact Q.nz_in)
local macro_rules | `(tactic| wide_open with (20, $fs,*)) => `(tactic| with_reducible exact Q.nz_en)
local macro_rules | `(tactic| wide_open with (20, $fs,*)) => `(tactic| with_reducible exact Q.nz_nm)
local macro_rules | `(tactic| wide_open with (19, $fs,*)) => `(tactic| with_reducible apply Q.nz_dic)
local macro_rules | `(tactic| wide_open with (19, $fs,*)) => `(tactic| with_reducible apply Q.nz_con)
local macro_rules | `(tactic| wide_open with (19, $fs,*)) => `(tactic| with_reducible apply Q.nz_lst)
local macro_rules | `(tactic| wide_open with (19, $fs,*)) => `(tactic| with_reducible apply Q.nz_tup)
local macro_rules | `(tactic| wide_open with (19, $fs,*)) => `(tactic| with_reducible exact Q.nz_non)
local macro_rules | `(tactic| wide_open with (19, $fs,*)) => `(tactic| with_reducible exact Q.nz_bl)
local macro_rules | `(tactic| wide_open with (19, $fs,*)) => `(tactic| with_reducible exact Q.nz_str)
local macro_rules | `(tactic| wide_open with (19, $fs,*)) => `(tactic| with_reducible exact Q.nz_int)
local macro_rules | `(tactic| wide_open with (19, $fs,*)) => `(tactic| with_reducible exact Q.nz_hs)
local macro_rules | `(tactic| wide_open with (19, $fs,*)) => `(tactic| with_reducible exact Q.nz_ent)
local macro_rules | `(tactic| wide_open with (19, $fs,*)) => `(tactic| with_reducible exact Q.nz_sT)
local macro_rules | `(tactic| wide_open with (18, $fs,*)) => `(tactic| with_reducible apply Q.fr_dic)
local macro_rules | `(tactic| wide_open with (18, $fs,*)) => `(tactic| with_reducible apply Q.fr_con)
local macro_rules | `(tactic| wide_open with (18, $fs,*)) => `(tactic| with_reducible apply Q.frs_c)
local macro_rules | `(tactic| wide_open with (18, $fs,*)) => `(tactic| with_reducible exact Q.frs_n)
local macro_rules | `(tactic| wide_open with (18, $fs,*)) => `(tactic| with_reducible apply Q.fr_lst)
local macro_rules | `(tactic| wide_open with (18, $fs,*)) => `(tactic| with_reducible apply Q.fr_tup)
local macro_rules | `(tactic| wide_open with (18, $fs,*)) => `(tactic| with_reducible exact Q.fr_non)
local macro_rules | `(tactic| wide_open with (18, $fs,*)) => `(tactic| with_reducible exact Q.fr_bl)
local macro_rules | `(tactic| wide_open with (18, $fs,*)) => `(tactic| with_reducible exact Q.fr_str)
local macro_rules | `(tactic| wide_open with (18, $fs,*)) => `(tactic| with_reducible exact Q.fr_int)
local macro_rules | `(tactic| wide_open with (18, $fs,*)) => `(tactic| with_reducible exact (Q.Hs.fr _))
local macro_rules | `(tactic| wide_open with (18, $fs,*)) => `(tactic| with_reducible exact (Q.Ent.fr _))
local macro_rules | `(tactic| wide_open with (18, $fs,*)) => `(tactic| with_reducible exact (Q.inT_fr _))
local macro_rules | `(tactic| wide_open with (18, $fs,*)) => `(tactic| with_reducible exact (Q.enT_fr _))
local macro_rules | `(tactic| wide_open with (18, $fs,*)) => `(tactic| with_reducible exact (Q.jd1 _))
local macro_rules | `(tactic| wide_open with (18, $fs,*)) => `(tactic| with_reducible exact Q.sT_fr)
local macro_rules | `(tactic| wide_open with (17, $fs,*)) => `(tactic| with_reducible exact Q.ev_yes)
local macro_rules | `(tactic| wide_open with (17, $fs,*)) => `(tactic| with_reducible exact Q.bo_t)
local macro_rules | `(tactic| wide_open with (17, $fs,*)) => `(tactic| with_reducible exact Q.ba_f)
local macro_rules | `(tactic| wide_open with (17, $fs,*)) => `(tactic| with_reducible exact Q.bn_f)
local macro_rules | `(tactic| wide_open with (17, $fs,*)) => `(tactic| with_reducible exact Q.bn_t)
local macro_rules | `(tactic| wide_open with (17, $fs,*)) => `(tactic| with_reducible apply Q.bo_f)
local macro_rules | `(tactic| wide_open with (17, $fs,*)) => `(tactic| with_reducible apply Q.ba_t)
local macro_rules | `(tactic| wide_open with (17, $fs,*)) => `(tactic| with_reducible apply Q.ev_bo)
local macro_rules | `(tactic| wide_open with (17, $fs,*)) => `(tactic| with_reducible apply Q.ev_ba)
local macro_rules | `(tactic| wide_open with (17, $fs,*)) => `(tactic| with_reducible apply Q.ev_bn)
local macro_rules | `(tactic| wide_open with (17, $fs,*)) => `(tactic| with_reducible apply Q.ev_bt)
local macro_rules | `(tactic| wide_open with (17, $fs,*)) => `(tactic| with_reducible apply Q.ev_rt)
local macro_rules | `(tactic| wide_open with (16, $fs,*)) => `(tactic| with_reducible apply Q.eo_ctt)
local macro_rules | `(tactic| wide_open with (16, $fs,*)) => `(tactic| with_reducible apply Q.eo_ctl)
local macro_rules | `(tactic| wide_open with (16, $fs,*)) => `(tactic| with_reducible apply Q.eo_intB)
local macro_rules | `(tactic| wide_open with (16, $fs,*)) => `(tactic| with_reducible apply Q.ev_opN)
local macro_rules | `(tactic| wide_open with (16, $fs,*)) => `(tactic| with_reducible apply Q.ev_op3)
local macro_rules | `(tactic| wide_open with (16, $fs,*)) => `(tactic| with_reducible apply Q.eo_isE)
local macro_rules | `(tactic| wide_open with (16, $fs,*)) => `(tactic| with_reducible exact Q.eo_isEn)
local macro_rules | `(tactic| wide_open with (16, $fs,*)) => `(tactic| with_reducible exact Q.eo_mn)
local macro_rules | `(tactic| wide_open with (16, $fs,*)) => `(tactic| with_reducible exact Q.eo_mx)
local macro_rules | `(tactic| wide_open with (16, $fs,*)) => `(tactic| with_reducible exact Q.eo_intF)
local macro_rules | `(tactic| wide_open with (16, $fs,*)) => `(tactic| with_reducible exact Q.eo_intT)
local macro_rules | `(tactic| wide_open with (16, $fs,*)) => `(tactic| with_reducible exact Q.eo_int)
local macro_rules | `(tactic| wide_open with (16, $fs,*)) => `(tactic| with_reducible exact Q.eo_ng)
local macro_rules | `(tactic| wide_open with (16, $fs,*)) => `(tactic| with_reducible exact Q.eo_isn)
local macro_rules | `(tactic| wide_open with (16, $fs,*)) => `(tactic| with_reducible exact Q.eo_is)
local macro_rules | `(tactic| wide_open with (16, $fs,*)) => `(tactic| with_reducible exact Q.eo_neI)
local macro_rules | `(tactic| wide_open with (16, $fs,*)) => `(tactic| with_reducible exact Q.eo_neS)
local macro_rules | `(tactic| wide_open with (16, $fs,*)) => `(tactic| with_reducible exact Q.eo_ge)
local macro_rules | `(tactic| wide_open with (16, $fs,*)) => `(tactic| with_reducible exact Q.eo_gt)
local macro_rules | `(tactic| wide_open with (16, $fs,*)) => `(tactic| with_reducible exact Q.eo_le)
local macro_rules | `(tactic| wide_open with (16, $fs,*)) => `(tactic| with_reducible exact Q.eo_lt)
local macro_rules | `(tactic| wide_open with (16, $fs,*)) => `(tactic| with_reducible exact Q.eo_ct)
local macro_rules | `(tactic| wide_open with (16, $fs,*)) => `(tactic| with_reducible exact Q.eo_sb)
local macro_rules | `(tactic| wide_open with (16, $fs,*)) => `(tactic| with_reducible exact Q.eo_ad)
local macro_rules | `(tactic| wide_open with (16, $fs,*)) => `(tactic| with_reducible exact Q.jlb)
local macro_rules | `(tactic| wide_open with (16, $fs,*)) => `(tactic| with_reducible exact Q.eo_eqS)
local macro_rules | `(tactic| wide_open with (16, $fs,*)) => `(tactic| with_reducible exact Q.ai_6)
local macro_rules | `(tactic| wide_open with (16, $fs,*)) => `(tactic| with_reducible exact Q.ai_5)
local macro_rules | `(tactic| wide_open with (16, $fs,*)) => `(tactic| with_reducible exact Q.ai_4)
local macro_rules | `(tactic| wide_open with (16, $fs,*)) => `(tactic| with_reducible exact Q.ai_3)
local macro_rules | `(tactic| wide_open with (16, $fs,*)) => `(tactic| with_reducible exact Q.ai_2)
local macro_rules | `(tactic| wide_open with (16, $fs,*)) => `(tactic| with_reducible exact Q.ai_1)
local macro_rules | `(tactic| wide_open with (16, $fs,*)) => `(tactic| with_reducible exact Q.ai_0)
local macro_rules | `(tactic| wide_open with (16, $fs,*)) => `(tactic| with_reducible apply Q.eoc_at)
local macro_rules | `(tactic| wide_open with (16, $fs,*)) => `(tactic| with_reducible apply Q.eo_ls)
local macro_rules | `(tactic| wide_open with (16, $fs,*)) => `(tactic| with_reducible apply Q.eo_tp)
local macro_rules | `(tactic| wide_open with (16, $fs,*)) => `(tactic| with_reducible apply Q.eol_at)
local macro_rules | `(tactic| wide_open with (16, $fs,*)) => `(tactic| with_reducible apply Q.eop_at)
local macro_rules | `(tactic| wide_open with (16, $fs,*)) => `(tactic| with_reducible apply Q.ev_fro)
local macro_rules | `(tactic| wide_open with (16, $fs,*)) => `(tactic| with_reducible apply Q.ev_op1)
local macro_rules | `(tactic| wide_open with (16, $fs,*)) => `(tactic| with_reducible apply Q.ev_op2)
local macro_rules | `(tactic| wide_open with (16, $fs,*)) => `(tactic| with_reducible exact Q.ev_c)
local macro_rules | `(tactic| wide_open with (16, $fs,*)) => `(tactic| with_reducible apply Q.jet)
local macro_rules | `(tactic| wide_open with (16, $fs,*)) => `(tactic| with_reducible exact (Q.jg9 _))
local macro_rules | `(tactic| wide_open with (16, $fs,*)) => `(tactic| with_reducible exact (Q.jg8 _))
local macro_rules | `(tactic| wide_open with (16, $fs,*)) => `(tactic| with_reducible exact Q.o_p9)
local macro_rules | `(tactic| wide_open with (15, $fs,*)) => `(tactic| with_reducible apply Q.ev_px0)
local macro_rules | `(tactic| wide_open with (15, $fs,*)) => `(tactic| with_reducible apply Q.ev_px1)
local macro_rules | `(tactic| wide_open with (15, $fs,*)) => `(tactic| with_reducible apply Q.ev_pn)
local macro_rules | `(tactic| wide_open with (15, $fs,*)) => `(tactic| with_reducible apply Q.ev_dict)
local macro_rules | `(tactic| wide_open with (15, $fs,*)) => `(tactic| with_reducible apply Q.ev_strT)
local macro_rules | `(tactic| wide_open with (15, $fs,*)) => `(tactic| with_reducible apply Q.ev_rng2)
local macro_rules | `(tactic| wide_open with (15, $fs,*)) => `(tactic| with_reducible apply Q.ev_rng1)
local macro_rules | `(tactic| wide_open with (15, $fs,*)) => `(tactic| with_reducible apply Q.ev_enum)
local macro_rules | `(tactic| wide_open with (15, $fs,*)) => `(tactic| with_reducible apply Q.ev_seqI)
local macro_rules | `(tactic| wide_open with (15, $fs,*)) => `(tactic| with_reducible apply Q.ev_ino)
local macro_rules | `(tactic| wide_open with (15, $fs,*)) => `(tactic| with_reducible apply Q.ev_cons)
local macro_rules | `(tactic| wide_open with (15, $fs,*)) => `(tactic| with_reducible exact Q.ev_nil)
local macro_rules | `(tactic| wide_open with (14, $fs,*)) => `(tactic| with_reducible exact Q.el_n)
local macro_rules | `(tactic| wide_open with (14, $fs,*)) => `(tactic| with_reducible exact Q.fk_ex)
local macro_rules | `(tactic| wide_open with (14, $fs,*)) => `(tactic| with_reducible exact Q.fk_rt)
local macro_rules | `(tactic| wide_open with (14, $fs,*)) => `(tactic| with_reducible exact Q.sk_bk)
local macro_rules | `(tactic| wide_open with (14, $fs,*)) => `(tactic| with_reducible exact Q.sk_ct)
local macro_rules | `(tactic| wide_open with (14, $fs,*)) => `(tactic| with_reducible exact Q.sk_ex)
local macro_rules | `(tactic| wide_open with (14, $fs,*)) => `(tactic| with_reducible apply Q.ev_setX)
local macro_rules | `(tactic| wide_open with (14, $fs,*)) => `(tactic| with_reducible apply Q.yk_ex)
local macro_rules | `(tactic| wide_open with (14, $fs,*)) => `(tactic| with_reducible exact Q.yk_rt)
local macro_rules | `(tactic| wide_open with (14, $fs,*)) => `(tactic| with_reducible exact Q.yk_nx)
local macro_rules | `(tactic| wide_open with (14, $fs,*)) => `(tactic| with_reducible apply Q.ev_try)
local macro_rules | `(tactic| wide_open with (14, $fs,*)) => `(tactic| with_reducible exact Q.ev_raise)
local macro_rules | `(tactic| wide_open with (14, $fs,*)) => `(tactic| with_reducible exact Q.ev_retN)
local macro_rules | `(tactic| wide_open with (14, $fs,*)) => `(tactic| with_reducible apply Q.fk_bk)
local macro_rules | `(tactic| wide_open with (14, $fs,*)) => `(tactic| with_reducible apply Q.fk_ct)
local macro_rules | `(tactic| wide_open with (14, $fs,*)) => `(tactic| with_reducible apply Q.fk_nx)
local macro_rules | `(tactic| wide_open with (14, $fs,*)) => `(tactic| with_reducible apply Q.ev_forget)
local macro_rules | `(tactic| wide_open with (14, $fs,*)) => `(tactic| with_reducible apply Q.el_c)
local macro_rules | `(tactic| wide_open with (14, $fs,*)) => `(tactic| with_reducible apply Q.ev_forO)
local macro_rules | `(tactic| wide_open with (14, $fs,*)) => `(tactic| with_reducible apply Q.ev_for)
local macro_rules | `(tactic| wide_open with (14, $fs,*)) => `(tactic| with_reducible apply Q.ev_frz)
local macro_rules | `(tactic| wide_open with (14, $fs,*)) => `(tactic| with_reducible exact Q.sk_rt)
local macro_rules | `(tactic| wide_open with (14, $fs,*)) => `(tactic| with_reducible exact Q.ev_snil)
local macro_rules | `(tactic| wide_open with (14, $fs,*)) => `(tactic| with_reducible apply Q.ev_ret)
local macro_rules | `(tactic| wide_open with (14, $fs,*)) => `(tactic| with_reducible apply Q.ev_expr)
local macro_rules | `(tactic| wide_open with (14, $fs,*)) => `(tactic| with_reducible apply Q.ev_asg)
local macro_rules | `(tactic| wide_open with (14, $fs,*)) => `(tactic| with_reducible apply Q.ik_f)
local macro_rules | `(tactic| wide_open with (14, $fs,*)) => `(tactic| with_reducible apply Q.ik_t)
local macro_rules | `(tactic| wide_open with (14, $fs,*)) => `(tactic| with_reducible apply Q.sk_nx)
local macro_rules | `(tactic| wide_open with (14, $fs,*)) => `(tactic| with_reducible apply Q.ev_set)
local macro_rules | `(tactic| wide_open with (14, $fs,*)) => `(tactic| with_reducible apply Q.ev_if)
local macro_rules | `(tactic| wide_open with (14, $fs,*)) => `(tactic| with_reducible apply Q.ev_seq)
local macro_rules | `(tactic| wide_open with (13, $fs,*)) => `(tactic| with_reducible exact Q.ev_newD)
local macro_rules | `(tactic| wide_open with (13, $fs,*)) => `(tactic| with_reducible exact Q.do_t)
local macro_rules | `(tactic| wide_open with (13, $fs,*)) => `(tactic| with_reducible exact Q.da_f)
local macro_rules | `(tactic| wide_open with (13, $fs,*)) => `(tactic| with_reducible apply Q.ev_lk)
local macro_rules | `(tactic| wide_open with (13, $fs,*)) => `(tactic| with_reducible apply Q.ev_get2)
local macro_rules | `(tactic| wide_open with (13, $fs,*)) => `(tactic| with_reducible apply Q.ev_methO)
local macro_rules | `(tactic| wide_open with (13, $fs,*)) => `(tactic| with_reducible apply Q.ev_methR)
local macro_rules | `(tactic| wide_open with (13, $fs,*)) => `(tactic| with_reducible apply Q.ev_meth)
local macro_rules | `(tactic| wide_open with (13, $fs,*)) => `(tactic| with_reducible apply Q.ev_us1)
local macro_rules | `(tactic| wide_open with (13, $fs,*)) => `(tactic| with_reducible apply Q.ev_us0)
local macro_rules | `(tactic| wide_open with (13, $fs,*)) => `(tactic| with_reducible apply Q.ev_compO)
local macro_rules | `(tactic| wide_open with (13, $fs,*)) => `(tactic| with_reducible apply Q.ev_comp)
local macro_rules | `(tactic| wide_open with (13, $fs,*)) => `(tactic| with_reducible apply Q.ev_noEx)
local macro_rules | `(tactic| wide_open with (13, $fs,*)) => `(tactic| with_reducible apply Q.ev_disp)
local macro_rules | `(tactic| wide_open with (13, $fs,*)) => `(tactic| with_reducible apply Q.ev_bslice)
local macro_rules | `(tactic| wide_open with (13, $fs,*)) => `(tactic| with_reducible apply Q.ev_dslice)
local macro_rules | `(tactic| wide_open with (13, $fs,*)) => `(tactic| with_reducible apply Q.ev_ix0)
local macro_rules | `(tactic| wide_open with (13, $fs,*)) => `(tactic| with_reducible apply Q.do_f)
local macro_rules | `(tactic| wide_open with (13, $fs,*)) => `(tactic| with_reducible apply Q.da_t)
local macro_rules | `(tactic| wide_open with (13, $fs,*)) => `(tactic| with_reducible apply Q.ev_or)
local macro_rules | `(tactic| wide_open with (13, $fs,*)) => `(tactic| with_reducible apply Q.ev_and)
local macro_rules | `(tactic| wide_open with (13, $fs,*)) => `(tactic| with_reducible apply Q.ev_not)
local macro_rules | `(tactic| wide_open with (13, $fs,*)) => `(tactic| with_reducible apply Q.ev_move)
local macro_rules | `(tactic| wide_open with (13, $fs,*)) => `(tactic| with_reducible apply Q.ev_dvar)
local macro_rules | `(tactic| wide_open with (13, $fs,*)) => `(tactic| with_reducible apply Q.ev_bop)
local macro_rules | `(tactic| wide_open with (13, $fs,*)) => `(tactic| with_reducible apply Q.ev_fz)
local macro_rules | `(tactic| wide_open with (13, $fs,*)) => `(tactic| with_reducible apply Q.ev_call)
local macro_rules | `(tactic| wide_open with (13, $fs,*)) => `(tactic| with_reducible apply Q.ev_vop)
local macro_rules | `(tactic| wide_open with (13, $fs,*)) => `(tactic| with_reducible apply Q.ev_of)
local macro_rules | `(tactic| wide_open with (12, $fs,*)) => `(tactic| with_reducible apply Q.nmk_c)
local macro_rules | `(tactic| wide_open with (12, $fs,*)) => `(tactic| with_reducible apply Q.nmk_n)
local macro_rules | `(tactic| wide_open with (12, $fs,*)) => `(tactic| with_reducible exact Q.nmk_0)
local macro_rules | `(tactic| wide_open with (12, $fs,*)) => `(tactic| with_reducible apply Q.nwipe_c)
local macro_rules | `(tactic| wide_open with (12, $fs,*)) => `(tactic| with_reducible exact Q.nwipe_n)
local macro_rules | `(tactic| wide_open with (12, $fs,*)) => `(tactic| with_reducible apply Q.nset_s)
local macro_rules | `(tactic| wide_open with (12, $fs,*)) => `(tactic| with_reducible exact Q.nset_0)
local macro_rules | `(tactic| wide_open with (1, $fs,*)) => `(tactic| (simp +decide [$[$fs:term],*, Q.fRun, Q.sSeq, Q.sIf, Q.rTest, Q.bTest, Q.bNot, Q.bAnd, Q.bOr, Q.rOp1, Q.rOp2, Q.rOp3, Q.rOpN, Q.rVar, Q.rC, Q.jdm, Q.jdx, Q.jdy, Q.jdz, Q.jd0, Q.dGet, Q.keyOk, Q.T.leaf, Q.T.tkey, Q.T.beq, Q.beqs, Q.fCmp, Q.int2, _root_.Q.R.fl, _root_.Q.R.bind, Q.sSet, Q.sAsg, Q.sExpr, Q.sRet, Q.sRetN, Q.sNil, Q.dOf, Q.fAddR, Q.fSub, Q.jb5, Q.jau, Q.jcp, Q.jcq, Q.jcr, Q.fNeg, Q.fAbs, Q.fInt, Q.fMax2, Q.fMin2, Q.jby, Q.jbz, Q.jb7, Q.jb0, Q.jb8, Q.fEq, Q.fNe, Q.fIs, Q.jc4, Q.ja7, Q.jco, Q.ja8, Q.ja9, Q.jba, Q.jbb, Q.T.eqOk, Q.T.pl, Q.pls, Q.T.dep, Q.deps, Q.T.eqv, Q.eqvs, Q.gPut, Q.gPut0, Q.jbc, Q.jbd, Q.jan, Q.jbe, Q.pName, Q.pIx, Q.upPut, Q.pathT, Q.ja0, Q.ja1, Q.putP, Q.ja2, Q.ja3, Q.ja4, Q.jcd, Q.jce, Q.jcf, Q.posOf, Q.outs, Q.T.fr, Q.frs, Q.T.fz, Q.fzs, Q.dFz, Q.dVar, Q.dMove, Q.vOp, Q.vOp1, Q.vOp2, Q.bOp, Q.dCons, Q.dNil, Q.fTup, Q.fLst, Q.fRep, Q.jck, Q.jcl, Q.jcm, Q.jcn, Q.fro, Q.dNot, Q.dAnd, Q.dOr, Q.jcs, Q.dDisp, Q.dNewD, Q.keyT, Q.jdj, Q.jbm, Q.bndOf, Q.jbu, Q.jcg, Q.jb1, Q.ja5, Q.ja6, Q.jai, Q.jaj, Q.fIsi, Q.fIsi2, Q.T.noIns, Q.T.isi, Q.dIx0, Q.noEx, Q.dIno, Q.dCall, Q.jah, Q.sFor, Q.iSeq, Q.jat, Q.jbo, Q.iStrT, Q.jak, Q.jal, Q.jam, Q.jaf, Q.dComp, Q.cLoop, Q.bYes, Q.wipeE, Q.jar, Q.jb9, Q.jca, Q.jcb, Q.jb4, Q.jcc, Q.fNot, Q.fJoin, Q.jdu, Q.dMeth, Q.jdv, Q.jcy, Q.jdk, Q.atK, Q.T.isO, Q.jch, Q.jci, Q.fKin, Q.fKix, Q.jbp, Q.jcj, Q.at_0, Q.at_1, Q.at_2, Q.at_3, Q.at_4, Q.at_5, Q.at_6, Q.at_7, Q.at_8, Q.at_9, Q.jdl, Q.fOrd, Q.sFrz] <;> rfl))
local macro_rules | `(tactic| wide_open with (1, $fs,*)) => `(tactic| first | (with_reducible apply Q.s62 <;> omega) | (with_reducible apply Q.eo_ml <;> omega) | (with_reducible apply Q.eo_ml' <;> omega) | (with_reducible apply Q.eo_md; omega) | (with_reducible apply Q.eo_dv <;> omega))
local macro_rules | `(tactic| wide_open with (1, $fs,*)) => `(tactic| first | (show List.length _ = _; rfl) | (show List.length _ ≤ _; decide) | (show List.length _ ≤ _; simp +decide; done) | (show Q.T.isO _ _ = _; rfl) | (show Q.T.isDic _ = _; rfl) | (show (_ : List (Option Nat))[_]? = _; rfl))
local macro_rules | `(tactic| wide_open with (1, $fs,*)) => `(tactic| first | (with_reducible apply Q.nz_of; with_reducible assumption) | (with_reducible apply Q.nzs_of; with_reducible assumption) $[| with_reducible exact Q.nz_of $fs]* $[| with_reducible exact Q.nzs_of $fs]*)
local macro_rules | `(tactic| wide_open with (1, $fs,*)) => `(tactic| (with_reducible show Q.NBo _ _; wide_open with (5, $fs,*)))
local macro_rules | `(tactic| wide_open with (1, $fs,*)) => `(tactic| with_reducible (show (_ : Option (Q.T × Q.T)) = _; first | with_reducible apply Q.eo_ap))
local macro_rules | `(tactic| wide_open with (1, $fs,*)) => `(tactic| with_reducible (show (_ : Option (Option Int)) = _; first | with_reducible exact Q.ev_bndN | with_reducible apply Q.ev_bndS))
local macro_rules | `(tactic| wide_open with (1, $fs,*)) => `(tactic| with_reducible (show (_ : Q.FR) = _; first | with_reducible apply Q.rk_rt | with_reducible apply Q.rk_nx | with_reducible apply Q.rk_ex))
local macro_rules | `(tactic| wide_open with (1, $fs,*)) => `(tactic| (with_reducible (show (_ : Option Q.Env) = _; wide_open with (22, $fs,*))))
local macro_rules | `(tactic| wide_open with (1, $fs,*)) => `(tactic| (with_reducible (show (_ : Option (List Q.T)) = _; wide_open with (21, $fs,*))))
local macro_rules | `(tactic| wide_open with (1, $fs,*)) => `(tactic| (with_reducible (show Q.NZs _ _; wide_open with (20, $fs,*))))
local macro_rules | `(tactic| wide_open with (1, $fs,*)) => `(tactic| (with_reducible (show Q.NZ _ _; wide_open with (19, $fs,*))))
local macro_rules | `(tactic| wide_open with (1, $fs,*)) => `(tactic| (with_reducible (show (_ : Bool) = _; wide_open with (18, $fs,*))))
local macro_rules | `(tactic| wide_open with (1, $fs,*)) => `(tactic| (with_reducible (show (_ : Q.R (Bool × Q.Env)) = _; wide_open with (17, $fs,*))))
local macro_rules | `(tactic| wide_open with (1, $fs,*)) => `(tactic| (with_reducible (show (_ : Option Q.T) = _; wide_open with (16, $fs,*))))
local macro_rules | `(tactic| wide_open with (1, $fs,*)) => `(tactic| (with_reducible (show (_ : Q.R (List Q.T × Q.Env)) = _; wide_open with (15, $fs,*))))
local macro_rules | `(tactic| wide_open with (1, $fs,*)) => `(tactic| (with_reducible (show (_ : Q.Fl) = _; wide_open with (14, $fs,*))))
local macro_rules | `(tactic| wide_open with (1, $fs,*)) => `(tactic| (with_reducible (show (_ : Q.R (Q.T × Q.Env)) = _; wide_open with (13, $fs,*))))
local macro_rules | `(tactic| wide_open with (1, $fs,*)) => `(tactic| first | fail $[| with_reducible exact $fs]*)
local macro_rules | `(tactic| wide_open with (1, $fs,*)) => `(tactic| with_reducible assumption)
local macro_rules | `(tactic| wide_open with (1, $fs,*)) => `(tactic| (with_reducible (show Q.NE _ _; wide_open with (12, $fs,*))))
local macro_rules | `(tactic| wide_open with (1, $fs,*)) => `(tactic| with_reducible (show Q.AT _ _ _; first | with_reducible exact Q.at_z | with_reducible apply Q.at_s))
local macro_rules | `(tactic| wide_open with (70, $fs,*)) => `(tactic| simp +decide [$[$fs:term],*, Q.fRun, Q.sSeq, Q.sIf, Q.rTest, Q.bTest, Q.bNot, Q.bAnd, Q.bOr, Q.rOp1, Q.rOp2, Q.rOp3, Q.rOpN, Q.rVar, Q.rC, Q.jdm, Q.jdx, Q.jdy, Q.jdz, Q.jd0, Q.dGet, Q.keyOk, Q.T.leaf, Q.T.tkey, Q.T.beq, Q.beqs, Q.fCmp, Q.int2, _root_.Q.R.fl, _root_.Q.R.bind, Q.sSet, Q.sAsg, Q.sExpr, Q.sRet, Q.sRetN, Q.sNil, Q.dOf, Q.fAddR, Q.fSub, Q.jb5, Q.jau, Q.jcp, Q.jcq, Q.jcr, Q.fNeg, Q.fAbs, Q.fInt, Q.fMax2, Q.fMin2, Q.jby, Q.jbz, Q.jb7, Q.jb0, Q.jb8, Q.fEq, Q.fNe, Q.fIs, Q.jc4, Q.ja7, Q.jco, Q.ja8, Q.ja9, Q.jba, Q.jbb, Q.T.eqOk, Q.T.pl, Q.pls, Q.T.dep, Q.deps, Q.T.eqv, Q.eqvs, Q.gPut, Q.gPut0, Q.jbc, Q.jbd, Q.jan, Q.jbe, Q.pName, Q.pIx, Q.upPut, Q.pathT, Q.ja0, Q.ja1, Q.putP, Q.ja2, Q.ja3, Q.ja4, Q.jcd, Q.jce, Q.jcf, Q.posOf, Q.outs, Q.T.fr, Q.frs, Q.T.fz, Q.fzs, Q.dFz, Q.dVar, Q.dMove, Q.vOp, Q.vOp1, Q.vOp2, Q.bOp, Q.dCons, Q.dNil, Q.fTup, Q.fLst, Q.fRep, Q.jck, Q.jcl, Q.jcm, Q.jcn, Q.fro, Q.dNot, Q.dAnd, Q.dOr, Q.jcs, Q.dDisp, Q.dNewD, Q.keyT, Q.jdj, Q.jbm, Q.bndOf, Q.jbu, Q.jcg, Q.jb1, Q.ja5, Q.ja6, Q.jai, Q.jaj, Q.fIsi, Q.fIsi2, Q.T.noIns, Q.T.isi, Q.dIx0, Q.noEx, Q.dIno, Q.dCall, Q.jah, Q.sFor, Q.iSeq, Q.jat, Q.jbo, Q.iStrT, Q.jak, Q.jal, Q.jam, Q.jaf, Q.dComp, Q.wipeE, Q.jar, Q.jb9, Q.jca, Q.jcb, Q.jb4, Q.jcc, Q.fNot, Q.fJoin, Q.jdu, Q.dMeth, Q.jdv, Q.jcy, Q.jdk, Q.atK, Q.T.isO, Q.jch, Q.jci, Q.fKin, Q.fKix, Q.jbp, Q.jcj, Q.at_0, Q.at_1, Q.at_2, Q.at_3, Q.at_4, Q.at_5, Q.at_6, Q.at_7, Q.at_8, Q.at_9, Q.jdl, Q.fOrd, Q.sFrz])
local macro_rules | `(tactic| wide_open with (71, $fs,*)) => `(tactic| simp +decide [$[$fs:term],*, Q.fRun, Q.sSeq, Q.sIf, Q.rTest, Q.bTest, Q.bNot, Q.bAnd, Q.bOr, Q.rOp1, Q.rOp2, Q.rOp3, Q.rOpN, Q.rVar, Q.rC, Q.jdm, Q.jdx, Q.jdy, Q.jdz, Q.jd0, Q.dGet, Q.keyOk, Q.T.leaf, Q.T.tkey, Q.T.beq, Q.beqs, Q.fCmp, Q.int2, _root_.Q.R.fl, _root_.Q.R.bind, Q.sSet, Q.sAsg, Q.sExpr, Q.sRet, Q.sRetN, Q.sNil, Q.dOf, Q.fAddR, Q.fSub, Q.jb5, Q.jau, Q.jcp, Q.jcq, Q.jcr, Q.fNeg, Q.fAbs, Q.fInt, Q.fMax2, Q.fMin2, Q.jby, Q.jbz, Q.jb7, Q.jb0, Q.jb8, Q.fEq, Q.fNe, Q.fIs, Q.jc4, Q.ja7, Q.jco, Q.ja8, Q.ja9, Q.jba, Q.jbb, Q.T.eqOk, Q.T.pl, Q.pls, Q.T.dep, Q.deps, Q.T.eqv, Q.eqvs, Q.gPut, Q.gPut0, Q.jbc, Q.jbd, Q.jan, Q.jbe, Q.pName, Q.pIx, Q.upPut, Q.pathT, Q.ja0, Q.ja1, Q.putP, Q.ja2, Q.ja3, Q.ja4, Q.jcd, Q.jce, Q.jcf, Q.posOf, Q.outs, Q.T.fr, Q.frs, Q.T.fz, Q.fzs, Q.dFz, Q.dVar, Q.dMove, Q.vOp, Q.vOp1, Q.vOp2, Q.bOp, Q.dCons, Q.dNil, Q.fTup, Q.fLst, Q.fRep, Q.jck, Q.jcl, Q.jcm, Q.jcn, Q.fro, Q.dNot, Q.dAnd, Q.dOr, Q.jcs, Q.dDisp, Q.dNewD, Q.keyT, Q.jdj, Q.jbm, Q.bndOf, Q.jbu, Q.jcg, Q.jb1, Q.ja5, Q.ja6, Q.jai, Q.jaj, Q.fIsi, Q.fIsi2, Q.T.noIns, Q.T.isi, Q.dIx0, Q.noEx, Q.dIno, Q.dCall, Q.jah, Q.sFor, Q.iSeq, Q.jat, Q.jbo, Q.iStrT, Q.jak, Q.jal, Q.jam, Q.jaf, Q.dComp, Q.cLoop, Q.bYes, Q.wipeE, Q.jar, Q.jb9, Q.jca, Q.jcb, Q.jb4, Q.jcc, Q.fNot, Q.fJoin, Q.jdu, Q.dMeth, Q.jdv, Q.jcy, Q.jdk, Q.atK, Q.T.isO, Q.jch, Q.jci, Q.fKin, Q.fKix, Q.jbp, Q.jcj, Q.at_0, Q.at_1, Q.at_2, Q.at_3, Q.at_4, Q.at_5, Q.at_6, Q.at_7, Q.at_8, Q.at_9, Q.jdl, Q.fOrd, Q.sFrz])
--@endmacro
set_option pp.maxSteps 2000
set_option maxHeartbeats 0
namespace Q
open PySem PySem.Spec PyProof.Rows L2
theorem jjv (f : T → Bool) : ∀ xs : List T, je6 (xs.map fun x => .bl (f x)) = some (xs.map f)
  | [] => rfl
  | x :: xs => by rw [List.map_cons, je6, jjv f xs]; rfl
theorem jom (z : Str) : (jge z).length = z.length := by simp [jge]; rfl
theorem jon {z : Str} {t : T} (h : t ∈ jge z) : ∃ x, t = .str x := by
  unfold jge at h
  obtain ⟨c, _, rfl⟩ := List.mem_map.mp h
  exact ⟨_, rfl⟩
theorem joo (t : T) (h : t.fr = true) (hn : t.noIns = true) (hl : ∀ z, t = .str z → z.length ≤ sizeLine) : jbr [t] = .ok (.bl (jjt t)) [] := by
  cases t with
  | str z =>
    have hz := hl z rfl
    by_cases c1 : (1 : Int) ≤ (z.length : Int)
    · by_cases c2 : (z.length : Int) ≤ 8
      · have key : cLoop [1] (gSlot 1) bYes jjj (jge z) [] [some (.str z), none] = .ok (.lst true ((jge z).map fun t => .bl (jnb t)), [some (.str z), none]) := by
          refine jgb (f := fun t => .bl (jnb t)) rfl (by rw [jom]; omega) fun x hx => ?_
          obtain ⟨y, rfl⟩ := jon hx
          exact ⟨_, _, rfl, rfl, rfl⟩
        have d1 : 1 ≤ z.length := by omega
        have d2 : z.length ≤ 8 := by omega
        wide_open with (70, jbr, jhf, fAll, jjv, jjt, c1, c2, d1, d2, hz, key)
      · have d2 : ¬ z.length ≤ 8 := by omega
        wide_open with (70, jbr, jhf, jjt, c1, c2, d2, hz)
    · have d1 : ¬ 1 ≤ z.length := by omega
      wide_open with (70, jbr, jhf, jjt, c1, d1, hz)
  | ins _ _ _ _ => cases hn
  | _ => wide_open with (70, jbr, jhf, jjt)
theorem nm_ok {l : List Nat} (h : nm l) : jbr [.str (SX.S l)] = .ok (.bl true) [] := by
  rw [joo _ rfl rfl (fun z e => by cases e; exact nm_line h), nm_name h]
end Q
namespace Q
open PySem PySem.Spec PyProof.Rows L2
def Ent.ofG (e : Ent) (g : Nm) : Bool := e.goodT.eqv (sT g)
def Ent.br (e : Ent) (s : Nat) : Int := match e with
  | .come _ _ _ _ a _ => a
  | .go _ _ _ _ a => 0 - a
  | .move _ _ _ _ _ a => if s = 0 then 0 - a else a
  | _ => 0
abbrev Ap := Nm → List (Ent × Int)
def tadd (A : Ap) (tr : Nm) (x : Ent × Int) : Ap := fun q => if q = tr then A q ++ [x] else A q
def tst (b : List Ent) (e : Ent) (A : Ap) : Ap := match e.pl with
  | [] => A
  | [p] => tadd A (trk b p) (e, e.br 0)
  | p :: q :: _ => tadd (tadd A (trk b p) (e, e.br 0)) (trk b q) (e, e.br 1)
def stp (g : Nm) (b : List Ent) (e : Ent) (A : Ap) : Ap := if e.ofG g = true then tst b e A else A
def aloS (g : Nm) (es : List Ent) : List Ent × Ap := es.foldl (fun s e => (s.1 ++ [e], stp g s.1 e s.2)) ([], fun _ => [])
def alo (g : Nm) (es : List Ent) : Ap := (aloS g es).2
theorem aloS_fst (g : Nm) (es : List Ent) : (aloS g es).1 = es := by
  have : ∀ (es : List Ent) (s : List Ent × Ap), (es.foldl (fun s e => (s.1 ++ [e], stp g s.1 e s.2)) s).1 = s.1 ++ es := by
    intro es
    induction es with
    | nil => intro s; simp
    | cons e es ih => intro s; rw [List.foldl_cons, ih]; simp
  unfold aloS
  rw [this]; rfl
theorem jl8 (g : Nm) (es : List Ent) (e : Ent) : alo g (es ++ [e]) = stp g es e (alo g es) := by
  unfold alo aloS
  rw [List.foldl_append]
  have := aloS_fst g es
  unfold aloS at this
  rw [List.foldl_cons, List.foldl_nil, this]
theorem Ent.pl_cases (e : Ent) : (∃ p, e.pl = [p]) ∨ ∃ p q, e.pl = [p, q] := by
  cases e with
  | some n t g p q => by_cases c : q = [] <;> simp [Ent.pl, c]
  | _ => simp [Ent.pl]
theorem jl9 (A : Ap) (tr : Nm) (x : Ent × Int) (q : Nm) : (tadd A tr x q).length ≤ (A q).length + 1 := by
  unfold tadd
  split <;> simp
theorem stp_len (g : Nm) (b : List Ent) (e : Ent) (A : Ap) (q : Nm) : (stp g b e A q).length ≤ (A q).length + 2 := by
  unfold stp
  split
  · unfold tst
    rcases e.pl_cases with ⟨p, h⟩ | ⟨p, r, h⟩
    · rw [h]; exact Nat.le_succ_of_le (jl9 _ _ _ _)
    · rw [h]
      exact Nat.le_trans (jl9 _ _ _ _) (Nat.succ_le_succ (jl9 _ _ _ _))
  · omega
end Q
namespace Q
open PySem PySem.Spec PyProof.Rows L2
theorem alo_take (g : Nm) (es : List Ent) (i : Nat) (q : Nm) : (alo g (es.take i) q).length ≤ 2 * i := by
  induction i with
  | zero => simp [alo, aloS]
  | succ i ih =>
    cases h : es[i]? with
    | none => rw [List.take_add_one, h]; simp only [Option.toList_none, List.append_nil]; omega
    | some e =>
      rw [List.take_add_one, h]
      simp only [Option.toList_some]
      rw [jl8]
      have := stp_len g (es.take i) e (alo g (es.take i)) q
      omega
structure Pc where
  tr : Nm
  n : Nat
  op : Option Nm
  cl : Option Nm
  ins : List Nm
  bal : Int
def oT : Option Nm → T
  | none => .non
  | some n => sT n
def Pc.t (p : Pc) : T := .tup [.tup [sT p.tr, .int p.n], oT p.op, oT p.cl, .tup (nmT p.ins), .int p.bal]
def pcT (l : List Pc) : List T := l.map Pc.t
@[simp] theorem oT_fr (o : Option Nm) : (oT o).fr = true := by cases o <;> rfl
@[simp] theorem oT_fz (o : Option Nm) : (oT o).fz = oT o := by cases o <;> rfl
theorem Pc.fr (p : Pc) : p.t.fr = true := by simp [Pc.t, T.fr, frs, jd1]
theorem Pc.fz (p : Pc) : p.t.fz = p.t := by simp [Pc.t, T.fz, fzs, jf4]
def Ent.cl (e : Ent) : Bool := match e with
  | .count .. => true
  | .look .. => true
  | _ => false
def Ent.cnt (e : Ent) : Int := match e with
  | .count _ _ _ _ a _ => a
  | _ => 0
structure Cs where
  fd : List Pc
  op : Option Nm
  ins : List Nm
  bal : Int
def Cs.st (tr : Nm) (s : Cs) (x : Ent × Int) : Cs := if x.1.cl = true then ⟨s.fd ++ [⟨tr, s.fd.length, s.op, some x.1.nam, s.ins, s.bal + x.1.cnt⟩], some x.1.nam, [], 0 - x.1.cnt⟩ else ⟨s.fd, s.op, s.ins ++ [x.1.nam], s.bal - x.2⟩
def Cs.z : Cs := ⟨[], none, [], 0⟩
def Cs.end (tr : Nm) (s : Cs) : List Pc := s.fd ++ [⟨tr, s.fd.length, s.op, none, s.ins, s.bal⟩]
def cutP (tr : Nm) (l : List (Ent × Int)) : List Pc := (l.foldl (Cs.st tr) Cs.z).end tr
def Cs.env (tr : Nm) (L : Option T) (s : Cs) : Env := [some (sT tr), L, some (.lst true (pcT s.fd)), some (oT s.op), some (.lst true (nmT s.ins)), some (.int s.bal), none, none, none]
theorem Cs.st_len (tr : Nm) (s : Cs) (x : Ent × Int) : (s.st tr x).fd.length ≤ s.fd.length + 1 ∧ (s.st tr x).ins.length ≤ s.ins.length + 1 := by
  unfold Cs.st
  split <;> simp
theorem cs_len (tr : Nm) (l : List (Ent × Int)) (i : Nat) : ((l.take i).foldl (Cs.st tr) Cs.z).fd.length ≤ i ∧ ((l.take i).foldl (Cs.st tr) Cs.z).ins.length ≤ i := by
  induction i with
  | zero => simp [Cs.z]
  | succ i ih =>
    rw [List.take_add_one, List.foldl_append]
    cases l[i]? with
    | none => simp only [Option.toList_none, List.foldl_nil]; omega
    | some e =>
      simp only [Option.toList_some, List.foldl_cons, List.foldl_nil]
      have := Cs.st_len tr ((l.take i).foldl (Cs.st tr) Cs.z) e
      omega
def pcs (h : Hs) (g : Nm) : List Pc := h.pl.flatMap fun tr => cutP tr (alo g h.es tr)
theorem cutP_len (tr : Nm) (l : List (Ent × Int)) : (cutP tr l).length ≤ l.length + 1 := by
  have := cs_len tr l l.length
  rw [List.take_length] at this
  unfold cutP Cs.end
  rw [List.length_append, List.length_singleton]
  omega
end Q
namespace Q
open PySem PySem.Spec PyProof.Rows L2
theorem alo_len (g : Nm) (es : List Ent) (q : Nm) : (alo g es q).length ≤ 2 * es.length := by
  have := alo_take g es es.length q
  rwa [List.take_length] at this
end Q
namespace Q
open PySem PySem.Spec PyProof.Rows L2
theorem Ent.ex_ex (e : Ent) (p : Nm) : e.ex (e.ex p) = p := by
  cases e with
  | swap n t a b =>
    have key : ∀ r : Nm, (Ent.swap n t a b).ex r = if r = a then b else if r = b then a else r := fun r => rfl
    by_cases h1 : p = a
    · subst h1
      rw [key p, if_pos rfl, key b]
      by_cases h2 : b = p
      · rw [if_pos h2, h2]
      · rw [if_neg h2, if_pos rfl]
    · by_cases h2 : p = b
      · subst h2; rw [key p, if_neg h1, if_pos rfl, key a, if_pos rfl]
      · rw [key p, if_neg h1, if_neg h2, key p, if_neg h1, if_neg h2]
  | _ => rfl
theorem trk_inj (es : List Ent) {p q : Nm} (h : trk es p = trk es q) : p = q := by
  induction es with
  | nil => exact h
  | cons e es ih =>
    apply ih
    have := congrArg e.ex h
    unfold trk at this ⊢
    rw [List.foldr_cons, List.foldr_cons, Ent.ex_ex, Ent.ex_ex] at this
    exact this
def Ent.lb (e : Ent) (b : List Ent) (tr : Nm) : Int := match e with
  | .come _ _ _ p a _ => if trk b p = tr then a else 0
  | .go _ _ _ p a => if trk b p = tr then 0 - a else 0
  | .move _ _ _ p q a => if trk b q = tr then a else if trk b p = tr then 0 - a else 0
  | _ => 0
def Org (es : List Ent) (tr : Nm) (x : Ent × Int) : Prop := ∃ i, es[i]? = some x.1 ∧ x.2 = x.1.lb (es.take i) tr
theorem alo_org (g : Nm) (es : List Ent) (ok : ∀ e ∈ es, e.Ok) (q : Nm) : ∀ x ∈ alo g es q, Org es q x := by
  have : ∀ i, ∀ q, ∀ x ∈ alo g (es.take i) q, Org es q x := by
    intro i
    induction i with
    | zero => intro q x hx; simp [alo, aloS] at hx
    | succ i ih =>
      rw [List.take_add_one]
      cases c : es[i]? with
      | none => simpa using ih
      | some e =>
        simp only [Option.toList_some]
        rw [jl8]
        have one : ∀ (A : Ap) (p : Nm) (s : Nat), (∀ q, ∀ x ∈ A q, Org es q x) → e.br s = e.lb (es.take i) (trk (es.take i) p) → ∀ q, ∀ x ∈ tadd A (trk (es.take i) p) (e, e.br s) q, Org es q x := by
          intro A p s hA hb q x hx
          unfold tadd at hx
          split at hx
          · rename_i hq
            rcases List.mem_append.mp hx with m | m
            · exact hA q x m
            · rw [List.mem_singleton] at m
              subst m
              exact ⟨i, c, by rw [hq]; exact hb⟩
          · exact hA q x hx
        have ok' := ok e (List.mem_of_getElem? c)
        unfold stp
        split
        · rename_i hg
          unfold tst
          cases e with
          | some n t g p r =>
            by_cases z : r = []
            · simp only [Ent.pl, if_pos z]
              exact one _ _ _ ih rfl
            · simp only [Ent.pl, if_neg z]
              exact one _ _ _ (one _ _ _ ih rfl) rfl
          | move n t g p r a =>
            simp only [Ent.pl]
            have ne : p ≠ r := ok'.2.2.2.2.2.1
            have nt : trk (es.take i) r ≠ trk (es.take i) p := fun z => ne (trk_inj _ z).symm
            refine one _ _ _ (one _ _ _ ih ?_) ?_
            · simp [Ent.br, Ent.lb, nt]
            · simp [Ent.br, Ent.lb]
          | swap n t p r => exact absurd hg (by simp [Ent.ofG, Ent.goodT, sT, T.eqv])
          | come n t g p a cc => simp only [Ent.pl]; exact one _ _ _ ih (by simp [Ent.br, Ent.lb])
          | go n t g p a => simp only [Ent.pl]; exact one _ _ _ ih (by simp [Ent.br, Ent.lb])
          | count n t g p a hh => simp only [Ent.pl]; exact one _ _ _ ih (by simp [Ent.br, Ent.lb])
          | look n t g p => simp only [Ent.pl]; exact one _ _ _ ih (by simp [Ent.br, Ent.lb])
        · exact ih
  have := this es.length q
  rwa [List.take_length] at this
def ixE (es : List Ent) (n : Nm) : Nat := es.findIdx fun e => decide (e.nam = n)
theorem ixE_at {es : List Ent} (nd : (es.map Ent.nam).Nodup) {i : Nat} {e : Ent} (h : es[i]? = some e) : ixE es e.nam = i := by
  unfold ixE
  induction es generalizing i with
  | nil => simp at h
  | cons f es ih =>
    rw [List.map_cons, List.nodup_cons] at nd
    cases i with
    | zero =>
      rw [List.getElem?_cons_zero, Option.some.injEq] at h
      subst h
      simp [List.findIdx_cons]
    | succ i =>
      rw [List.getElem?_cons_succ] at h
      have hm : e.nam ∈ es.map Ent.nam := List.mem_map_of_mem (List.mem_of_getElem? h)
      have ne : ¬ f.nam = e.nam := fun z => nd.1 (z ▸ hm)
      rw [List.findIdx_cons, ih nd.2 h]
      simp [ne]
def cntN (es : List Ent) : Option Nm → Int
  | none => 0
  | some n => match es[ixE es n]? with
    | some e => e.cnt
    | none => 0
def lbN (es : List Ent) (tr : Nm) (n : Nm) : Int := match es[ixE es n]? with
  | some e => e.lb (es.take (ixE es n)) tr
  | none => 0
theorem cntN_at {es : List Ent} (nd : (es.map Ent.nam).Nodup) {i : Nat} {e : Ent} (h : es[i]? = some e) : cntN es (some e.nam) = e.cnt := by
  unfold cntN
  simp only [ixE_at nd h, h]
theorem lbN_at {es : List Ent} (nd : (es.map Ent.nam).Nodup) {i : Nat} {e : Ent} (h : es[i]? = some e) (tr : Nm) : lbN es tr e.nam = e.lb (es.take i) tr := by
  unfold lbN
  simp only [ixE_at nd h, h]
def lbS (es : List Ent) (tr : Nm) (l : List Nm) : Int := (l.map (lbN es tr)).sum
def InN (es : List Ent) (n : Nm) : Prop := ∃ (e : Ent) (i : Nat), es[i]? = some e ∧ e.nam = n
structure Row (es : List Ent) (tr : Nm) (p : Pc) : Prop where
  tk : p.tr = tr
  op : ∀ n, p.op = some n → InN es n
  cl : ∀ n, p.cl = some n → InN es n
  ins : ∀ n ∈ p.ins, InN es n
  bal : p.bal = cntN es p.cl - cntN es p.op - lbS es tr p.ins
structure CsI (es : List Ent) (tr : Nm) (s : Cs) : Prop where
  fd : ∀ p ∈ s.fd, Row es tr p
  op : ∀ n, s.op = some n → InN es n
  ins : ∀ n ∈ s.ins, InN es n
  bal : s.bal = 0 - cntN es s.op - lbS es tr s.ins
theorem lbS_app (es : List Ent) (tr : Nm) (l : List Nm) (n : Nm) : lbS es tr (l ++ [n]) = lbS es tr l + lbN es tr n := by simp [lbS]
theorem CsI.go {es : List Ent} {tr : Nm} (nd : (es.map Ent.nam).Nodup) : ∀ (l : List (Ent × Int)) {s : Cs}, (∀ x ∈ l, Org es tr x) → CsI es tr s → CsI es tr (l.foldl (Cs.st tr) s)
  | [], _, _, h => h
  | x :: l, s, hx, h => by
    rw [List.foldl_cons]
    refine CsI.go nd l (fun y hy => hx y (List.mem_cons_of_mem _ hy)) ?_
    obtain ⟨i, h1, h2⟩ := hx x List.mem_cons_self
    have iN : InN es x.1.nam := ⟨x.1, i, h1, rfl⟩
    unfold Cs.st
    split
    · refine ⟨fun p hp => ?_, fun n hn => ?_, fun n hn => absurd hn List.not_mem_nil, ?_⟩
      · rcases List.mem_append.mp hp with m | m
        · exact h.fd p m
        · rw [List.mem_singleton] at m
          subst m
          refine ⟨rfl, h.op, fun n hn => ?_, h.ins, ?_⟩
          · cases hn; exact iN
          · show s.bal + x.1.cnt = cntN es (some x.1.nam) - cntN es s.op - lbS es tr s.ins
            rw [h.bal, cntN_at nd h1]; omega
      · cases hn; exact iN
      · show 0 - x.1.cnt = 0 - cntN es (some x.1.nam) - lbS es tr []
        rw [cntN_at nd h1]; simp [lbS]
    · refine ⟨h.fd, h.op, fun n hn => ?_, ?_⟩
      · rcases List.mem_append.mp hn with m | m
        · exact h.ins n m
        · rw [List.mem_singleton] at m; subst m; exact iN
      · show s.bal - x.2 = 0 - cntN es s.op - lbS es tr (s.ins ++ [x.1.nam])
        rw [lbS_app, h.bal, lbN_at nd h1, h2]; omega
theorem cutP_rows {es : List Ent} {tr : Nm} (nd : (es.map Ent.nam).Nodup) {l : List (Ent × Int)} (hx : ∀ x ∈ l, Org es tr x) : ∀ p ∈ cutP tr l, Row es tr p := by
  intro p hp
  have h : CsI es tr (l.foldl (Cs.st tr) Cs.z) := CsI.go nd l hx ⟨fun p hp => absurd hp List.not_mem_nil, fun n hn => by simp [Cs.z] at hn, fun n hn => absurd hn List.not_mem_nil, by simp [Cs.z, cntN, lbS]⟩
  unfold cutP Cs.end at hp
  rcases List.mem_append.mp hp with m | m
  · exact h.fd p m
  · rw [List.mem_singleton] at m
    subst m
    exact ⟨rfl, h.op, fun n hn => by simp at hn, h.ins, by
      show Cs.bal _ = cntN es none - _ - _
      rw [h.bal]; rfl⟩
theorem pcs_rows (h : Hs) (ok : h.Ok) (g : Nm) : ∀ p ∈ pcs h g, p.tr ∈ h.pl ∧ Row h.es p.tr p := by
  intro p hp
  unfold pcs at hp
  obtain ⟨tr, h1, h2⟩ := List.mem_flatMap.mp hp
  have r := cutP_rows ok.en (alo_org g h.es ok.eo tr) p h2
  have e := r.tk
  subst e
  exact ⟨h1, r⟩
end Q
namespace Q
open PySem PySem.Spec PyProof.Rows L2
structure Ti where
  w : Str
  n : Nm
  out : Option (Nm × Nat)
  into : Option (Nm × Nat)
def pcO : Option (Nm × Nat) → T
  | none => .non
  | some x => .tup [sT x.1, .int x.2]
def Ti.t (x : Ti) : T := .tup [.tup [.str x.w, sT x.n], pcO x.out, pcO x.into]
def tiT (l : List Ti) : List T := l.map Ti.t
@[simp] theorem pcO_fr (o : Option (Nm × Nat)) : (pcO o).fr = true := by cases o <;> rfl
@[simp] theorem pcO_fz (o : Option (Nm × Nat)) : (pcO o).fz = pcO o := by cases o <;> rfl
theorem tiT_len (l : List Ti) : (tiT l).length = l.length := by simp [tiT]
theorem Ti.fr (x : Ti) : x.t.fr = true := by simp [Ti.t, T.fr, frs]
def pw (rows : List Pc) (tr n : Nm) : Option (Nm × Nat) := (rows.find? fun p => decide (p.tr = tr) && decide (n ∈ p.ins)).map fun p => (p.tr, p.n)
end Q
namespace Q
open PySem PySem.Spec PyProof.Rows L2
end Q
namespace Q
open PySem PySem.Spec PyProof.Rows L2
def wt (l : List Pc) : Nat := (l.map fun p => 1 + p.ins.length).sum
theorem wt_app (a b : List Pc) : wt (a ++ b) = wt a + wt b := by simp [wt]
theorem cs_wt (tr : Nm) : ∀ (l : List (Ent × Int)) (s : Cs), wt ((l.foldl (Cs.st tr) s).end tr) = wt s.fd + 1 + s.ins.length + l.length
  | [], s => by simp [Cs.end, wt]; omega
  | x :: l, s => by
    rw [List.foldl_cons, cs_wt tr l]
    unfold Cs.st
    split
    · rw [wt_app]; simp [wt]; omega
    · simp; omega
theorem cut_wt (tr : Nm) (l : List (Ent × Int)) : wt (cutP tr l) = 1 + l.length := by
  unfold cutP
  rw [cs_wt]
  simp [Cs.z, wt]
def totN (pl : List Nm) (A : Ap) : Nat := (pl.map fun q => (A q).length).sum
theorem jkm : ∀ {pl : List Nm} {A : Ap} {tr : Nm} {x : Ent × Int}, pl.Nodup → totN pl (tadd A tr x) ≤ totN pl A + 1
  | [], _, _, _, _ => by simp [totN]
  | p :: pl, A, tr, x, nd => by
    rw [List.nodup_cons] at nd
    unfold totN
    rw [List.map_cons, List.map_cons, List.sum_cons, List.sum_cons]
    by_cases c : p = tr
    · subst c
      have e : (pl.map fun q => (tadd A p x q).length) = pl.map fun q => (A q).length := List.map_congr_left fun q hq => by
        have ne : ¬ q = p := fun e => nd.1 (e ▸ hq)
        unfold tadd
        rw [if_neg ne]
      rw [e]
      unfold tadd
      rw [if_pos rfl, List.length_append, List.length_singleton]
      omega
    · have ih := jkm (A := A) (tr := tr) (x := x) nd.2
      unfold totN at ih
      have : (tadd A tr x p).length = (A p).length := by unfold tadd; rw [if_neg c]
      omega
theorem totN_z : ∀ pl : List Nm, totN pl (fun _ => []) = 0
  | [] => rfl
  | p :: pl => by
    have := totN_z pl
    unfold totN at this ⊢
    rw [List.map_cons, List.sum_cons, this]; rfl
theorem alo_totN (g : Nm) {pl : List Nm} (pd : pl.Nodup) (es : List Ent) : totN pl (alo g es) ≤ 2 * es.length := by
  have : ∀ i, totN pl (alo g (es.take i)) ≤ 2 * i := by
    intro i
    induction i with
    | zero => have := totN_z pl; simp only [List.take_zero, alo, aloS, List.foldl_nil]; omega
    | succ i ih =>
      rw [List.take_add_one]
      cases c : es[i]? with
      | none => simp only [Option.toList_none, List.append_nil]; omega
      | some e =>
        simp only [Option.toList_some]
        rw [jl8]
        unfold stp
        split
        · unfold tst
          rcases e.pl_cases with ⟨p, hp⟩ | ⟨p, r, hp⟩
          · rw [hp]
            have := jkm (A := alo g (es.take i)) (tr := trk (es.take i) p) (x := (e, e.br 0)) pd
            simp only; omega
          · rw [hp]
            have := jkm (A := alo g (es.take i)) (tr := trk (es.take i) p) (x := (e, e.br 0)) pd
            have := jkm (A := tadd (alo g (es.take i)) (trk (es.take i) p) (e, e.br 0)) (tr := trk (es.take i) r) (x := (e, e.br 1)) pd
            simp only; omega
        · omega
  have := this es.length
  rwa [List.take_length] at this
theorem pcs_wt (h : Hs) (pd : h.pl.Nodup) (p6 : h.pl.length ≤ 6) (e30 : h.es.length ≤ 30) (g : Nm) : wt (pcs h g) ≤ 66 := by
  have e1 : wt (pcs h g) = h.pl.length + totN h.pl (alo g h.es) := by
    unfold pcs totN
    generalize h.pl = pl
    induction pl with
    | nil => rfl
    | cons p pl ih => rw [List.flatMap_cons, wt_app, ih, cut_wt, List.map_cons, List.sum_cons, List.length_cons]; omega
  have := alo_totN g pd h.es
  omega
end Q
namespace Q
open PySem PySem.Spec PyProof.Rows L2
structure AloI (g : Nm) (es : List Ent) (k : Nat) (A : Ap) : Prop where
  org : ∀ q, ∀ x ∈ A q, x.1.ofG g = true ∧ ∃ i, i < k ∧ es[i]? = some x.1 ∧ ∃ p ∈ x.1.pl, q = trk (es.take i) p
  nd : ∀ q, ((A q).map fun x => x.1.nam).Nodup
structure CsU (P : List (Ent × Int)) (s : Cs) : Prop where
  cl : ∀ p ∈ s.fd, ∃ x ∈ P, x.1.cl = true ∧ p.cl = some x.1.nam
  inj : ∀ p ∈ s.fd, ∀ p' ∈ s.fd, p.cl = p'.cl → p = p'
theorem cut_tr (tr : Nm) (l : List (Ent × Int)) : ∀ p ∈ cutP tr l, p.tr = tr := by
  have : ∀ (l : List (Ent × Int)) (s : Cs), (∀ p ∈ s.fd, p.tr = tr) → ∀ p ∈ (l.foldl (Cs.st tr) s).fd, p.tr = tr := by
    intro l
    induction l with
    | nil => exact fun s h => h
    | cons x l ih =>
      intro s h
      rw [List.foldl_cons]
      refine ih _ ?_
      unfold Cs.st
      split
      · intro p hp
        rcases List.mem_append.mp hp with m | m
        · exact h p m
        · rw [List.mem_singleton] at m; subst m; rfl
      · exact h
  intro p hp
  unfold cutP Cs.end at hp
  rcases List.mem_append.mp hp with m | m
  · exact this l Cs.z (fun p hp => absurd hp List.not_mem_nil) p m
  · rw [List.mem_singleton] at m; subst m; rfl
theorem pcs_in {h : Hs} {g : Nm} {p : Pc} (hp : p ∈ pcs h g) : p.tr ∈ h.pl ∧ p ∈ cutP p.tr (alo g h.es p.tr) := by
  unfold pcs at hp
  obtain ⟨tr, h1, h2⟩ := List.mem_flatMap.mp hp
  have e := cut_tr tr _ p h2
  subst e
  exact ⟨h1, h2⟩
inductive TiM (h : Hs) (g : Nm) : Ti → Prop
  | b (p : Pc) (hp : p ∈ pcs h g) (z : p.n = 0) : TiM h g ⟨"begin", p.tr, none, some (p.tr, p.n)⟩
  | n (p : Pc) (hp : p ∈ pcs h g) (z : p.cl = none) : TiM h g ⟨"now", p.tr, some (p.tr, p.n), none⟩
  | l (p : Pc) (c : Nm) (hp : p ∈ pcs h g) (z : p.cl = some c) : TiM h g ⟨"look", c, some (p.tr, p.n), some (p.tr, p.n + 1)⟩
  | s (i : Nat) (n : Nm) (t : Int) (g' p q : Nm) (he : h.es[i]? = some (.some n t g' p q)) : TiM h g ⟨"some", n, pw (pcs h g) (trk (h.es.take i) p) n, if q = [] then none else pw (pcs h g) (trk (h.es.take i) q) n⟩
end Q
namespace Q
open PySem PySem.Spec PyProof.Rows L2 PySem.W
theorem inN_nm {h : Hs} (ok : h.Ok) {n : Nm} (i : InN h.es n) : nm n := by
  obtain ⟨e, k, h1, rfl⟩ := i
  have := ok.eo e (List.mem_of_getElem? h1)
  cases e <;> exact this.1
theorem Sm.oT {h : Hs} (ok : h.Ok) {o : Option Nm} {d : Nat} (i : ∀ n, o = some n → InN h.es n) : Sm (Q.oT o) 8 d := by
  cases o with
  | none => exact Sm.non.mono (by omega) (Nat.le_refl _)
  | some n => exact Sm.nm (inN_nm ok (i n rfl))
theorem jlc {α : Type} (f : α → Int) (k : Nat) : ∀ l : List α, (∀ a ∈ l, (f a).natAbs ≤ k) → (l.map f).sum.natAbs ≤ l.length * k
  | [], _ => by simp
  | a :: l, h => by
    have := h a List.mem_cons_self
    have ih := jlc f k l fun b hb => h b (List.mem_cons_of_mem _ hb)
    rw [List.map_cons, List.sum_cons, List.length_cons, Nat.add_mul]
    omega
theorem cnt_abs {e : Ent} (ok : e.Ok) : e.cnt.natAbs ≤ 1000000000 := by
  cases e with
  | count n t g p a hh => have := ok.2.2.2.2.1; unfold amt at this; simp only [Ent.cnt]; omega
  | _ => simp [Ent.cnt]
theorem lb_abs {e : Ent} (ok : e.Ok) (b : List Ent) (tr : Nm) : (e.lb b tr).natAbs ≤ 1000000000 := by
  cases e with
  | come n t g p a c => have := ok.2.2.2.2.1; unfold amt at this; simp only [Ent.lb]; split <;> omega
  | go n t g p a => have := ok.2.2.2.2; unfold amt at this; simp only [Ent.lb]; split <;> omega
  | move n t g p q a => have := ok.2.2.2.2.2.2; unfold amt at this; simp only [Ent.lb]; split <;> (try split) <;> omega
  | _ => simp [Ent.lb]
theorem jop {h : Hs} (ok : h.Ok) (o : Option Nm) : (cntN h.es o).natAbs ≤ 1000000000 := by
  cases o with
  | none => simp [cntN]
  | some n =>
    unfold cntN
    cases he : h.es[ixE h.es n]? with
    | some e => simp only [he]; exact cnt_abs (ok.eo e (List.mem_of_getElem? he))
    | none => simp [he]
theorem lbN_abs {h : Hs} (ok : h.Ok) (tr n : Nm) : (lbN h.es tr n).natAbs ≤ 1000000000 := by
  unfold lbN
  split
  · rename_i e he; exact lb_abs (ok.eo e (List.mem_of_getElem? he)) _ _
  · simp
theorem Sm.idx {n d : Nat} (h : n < 1000000) : Sm (.int n) 0 d := Sm.int (Nat.lt_of_lt_of_le (show ((n : Int)).natAbs < 1000000 by omega) (by decide))
theorem cut_n (tr : Nm) (l : List (Ent × Int)) : ∀ p ∈ cutP tr l, p.n < (cutP tr l).length := by
  have key : ∀ (l : List (Ent × Int)) (s : Cs), (∀ p ∈ s.fd, p.n < s.fd.length) → ∀ p ∈ (l.foldl (Cs.st tr) s).fd, p.n < (l.foldl (Cs.st tr) s).fd.length := by
    intro l
    induction l with
    | nil => exact fun s h => h
    | cons x l ih =>
      intro s h
      rw [List.foldl_cons]
      refine ih _ ?_
      unfold Cs.st
      split
      · intro p hp
        rw [List.length_append, List.length_singleton]
        rcases List.mem_append.mp hp with m | m
        · have := h p m; omega
        · rw [List.mem_singleton] at m; subst m; simp only; omega
      · exact h
  intro p hp
  unfold cutP Cs.end at hp ⊢
  rw [List.length_append, List.length_singleton]
  rcases List.mem_append.mp hp with m | m
  · have := key l Cs.z (fun p hp => absurd hp List.not_mem_nil) p m; omega
  · rw [List.mem_singleton] at m; subst m; simp only; omega
theorem pcs_n {h : Hs} (ok : h.Ok) {g : Nm} {p : Pc} (hp : p ∈ pcs h g) : p.n < 1000 := by
  have a := cut_n p.tr _ p (pcs_in hp).2
  have b := cutP_len p.tr (alo g h.es p.tr)
  have c := alo_len g h.es p.tr
  have d := ok.e30
  omega
theorem Sm.pc {h : Hs} (ok : h.Ok) {g : Nm} {p : Pc} (hp : p ∈ pcs h g) (hw : p.ins.length ≤ 66) : Sm p.t (40 + 9 * p.ins.length) 2 := by
  obtain ⟨h1, r⟩ := pcs_rows h ok g p hp
  have b : p.bal.natAbs < 2 ^ 250 := by
    rw [r.bal]
    have a1 := jop ok p.cl
    have a2 := jop ok p.op
    have a3 := jlc (lbN h.es p.tr) 1000000000 p.ins fun n _ => lbN_abs ok p.tr n
    unfold lbS
    have : p.ins.length * 1000000000 ≤ 66 * 1000000000 := Nat.mul_le_mul_right _ hw
    exact Nat.lt_of_le_of_lt (show _ ≤ 100000000000 by omega) (by decide)
  have n1 : Sms (nmT p.ins) (p.ins.length * 9) 0 := Sms.map fun x hx => .nm (inN_nm ok (r.ins x hx))
  have k1 : Sm (.tup [sT p.tr, .int p.n]) 10 1 := (Sm.tup (d := 0) (.cons (.nm (ok.pn _ h1)) (.cons (.idx (by have := pcs_n ok hp; omega)) .nil))).mono (by omega) (Nat.le_refl _)
  exact (Sm.tup (d := 1) (.cons k1 (.cons (Sm.oT ok r.op) (.cons (Sm.oT ok r.cl) (.cons (Sm.tup (d := 0) n1) (.cons (.int b) .nil)))))).mono (by omega) (Nat.le_refl _)
theorem Sms.pcs {h : Hs} (ok : h.Ok) {g : Nm} : ∀ l : List Pc, (∀ p ∈ l, p ∈ Q.pcs h g) → wt l ≤ 66 → Sms (pcT l) (41 * wt l) 2
  | [], _, _ => Sms.nil
  | p :: l, hl, hw => by
    have e : wt (p :: l) = 1 + p.ins.length + wt l := by simp [wt]
    rw [e] at hw ⊢
    have a := Sm.pc ok (hl p List.mem_cons_self) (by omega)
    have b := Sms.pcs ok l (fun q hq => hl q (List.mem_cons_of_mem _ hq)) (by omega)
    exact (Sms.cons a b).mono (by omega) (Nat.le_refl _)
theorem Sm.pieces {h : Hs} (ok : h.Ok) (g : Nm) (o : Bool) : fRepr [.lst o (pcT (Q.pcs h g))] = some (.str (rp (.lst o (pcT (Q.pcs h g))))) := by
  have w := pcs_wt h ok.pd ok.p6 ok.e30 g
  exact (Sm.lst (Sms.pcs ok (Q.pcs h g) (fun p hp => hp) w)).repr (by omega) (by omega)
theorem Sm.pcO {h : Hs} (ok : h.Ok) {o : Option (Nm × Nat)} (i : ∀ x, o = some x → x.1 ∈ h.pl ∧ x.2 ≤ 1001) : Sm (Q.pcO o) 10 1 := by
  cases o with
  | none => exact Sm.non.mono (by omega) (Nat.le_refl _)
  | some x => exact (Sm.tup (d := 0) (.cons (.nm (ok.pn _ (i x rfl).1)) (.cons (.idx (by have := (i x rfl).2; omega)) .nil))).mono (by omega) (Nat.le_refl _)
end Q
namespace Q
open PySem PySem.Spec PyProof.Rows L2 PySem.W
end Q
namespace Q
open PySem PySem.Spec PyProof.Rows L2
structure Kd (α : Type) [DecidableEq α] (tk : Bool) (enc : α → T) : Prop where
  beq : ∀ a b, (enc a).beq (enc b) = decide (a = b)
  key : ∀ a, keyOk tk (enc a) = true
section
variable {α : Type} [DecidableEq α] {tk : Bool} {enc : α → T}
end
end Q
namespace Q
open PySem PySem.Spec PyProof.Rows L2
end Q
namespace Q
open PySem PySem.Spec PyProof.Rows L2
structure NB where
  base : List Nat
  sp : Int
  tn : Int
  st : Int
def NB.t (N : NB) : T := .tup [sT N.base, .int N.sp, .int N.tn, .int N.st]
structure NB.Ok (N : NB) (most : Nat) : Prop where
  low : ∀ c ∈ N.base, low c
  len : N.base.length + 1 ≤ most
  m7 : most ≤ 7
  sp0 : 0 ≤ N.sp
  sp1 : N.sp ≤ N.base.length
  tn0 : 0 ≤ N.tn
  tn1 : N.tn < 26
  st : N.st = 1 ∨ N.st = 7 ∨ N.st = 25 ∨ N.st = 11
def NB.c (N : NB) (k : Nat) : Nat := 97 + ((N.tn + N.st * k) % 26).toNat
def NB.nm (N : NB) (k : Nat) : Nm := N.base.take N.sp.toNat ++ [N.c k] ++ N.base.drop N.sp.toNat ++ ((List.replicate (k % 2) [N.c k]).flatten ++ (List.replicate (k / 26) [97, 98]).flatten)
theorem ji9 {α : Type} (a : List α) : ∀ n : Nat, (List.replicate n a).flatten.length = n * a.length
  | 0 => by simp
  | n + 1 => by rw [List.replicate_succ, List.flatten_cons, List.length_append, ji9 a n, Nat.succ_mul]; omega
theorem NB.nm_len (N : NB) (k : Nat) : (N.nm k).length = N.base.length + 1 + k % 2 + 2 * (k / 26) := by
  unfold NB.nm
  simp only [List.length_append, ji9, List.length_take, List.length_drop, List.length_cons, List.length_nil]
  omega
theorem NB.c_low (N : NB) (k : Nat) : Q.low (N.c k) := by unfold NB.c Q.low; omega
theorem NB.nm_ok {N : NB} {most : Nat} (ok : N.Ok most) {k : Nat} (hk : k < 30) (h : k < 26 ∨ most ≤ 5) : Q.nm (N.nm k) := by
  have l := N.nm_len k
  have := ok.len
  have := ok.m7
  refine ⟨by omega, by omega, fun c hc => ?_⟩
  unfold NB.nm at hc
  simp only [List.mem_append, List.mem_flatten, List.mem_replicate] at hc
  rcases hc with ((hc | hc) | hc) | ⟨l, ⟨_, rfl⟩, hc⟩ | ⟨l, ⟨_, rfl⟩, hc⟩
  · exact ok.low c (List.mem_of_mem_take hc)
  · rw [List.mem_singleton] at hc; subst hc; exact N.c_low k
  · exact ok.low c (List.mem_of_mem_drop hc)
  · rw [List.mem_singleton] at hc; subst hc; exact N.c_low k
  · simp only [List.mem_cons, List.not_mem_nil, or_false] at hc
    rcases hc with rfl | rfl <;> unfold Q.low <;> omega
def NB.l (N : NB) (a m : Nat) : List Nm := (List.range m).map fun i => N.nm (i + a)
end Q
set_option pp.maxSteps 1500
namespace Q
open PySem PySem.Spec PyProof.Rows L2
end Q
set_option pp.maxSteps 2000
set_option maxHeartbeats 0
namespace Q
open PySem PySem.Spec PyProof.Rows L2
def Ent.bk (e : Ent) (p : Nm) (b : Option Int) : Option Int := match e with
  | .count _ _ _ _ a _ => Option.some a
  | .look .. => b
  | .some .. => Option.none
  | .swap .. => b
  | .come _ _ _ _ a _ => b.map (· + a)
  | .go _ _ _ _ a => b.map (· - a)
  | .move _ _ _ q _ a => b.map fun x => if p = q then x - a else x + a
end Q
set_option pp.maxSteps 3000
set_option maxHeartbeats 0
namespace Q
open PySem PySem.Spec PyProof.Rows L2
end Q
set_option pp.maxSteps 3000
set_option maxHeartbeats 0
namespace Q
open PySem PySem.Spec PyProof.Rows L2
end Q
set_option pp.maxSteps 3000
set_option maxHeartbeats 0
namespace Q
open PySem PySem.Spec PyProof.Rows L2 PySem.W
end Q
set_option pp.maxSteps 3000
set_option maxHeartbeats 0
namespace Q
open PySem PySem.Spec PyProof.Rows L2
end Q
set_option pp.maxSteps 3000
set_option maxHeartbeats 0
namespace Q
open PySem PySem.Spec PyProof.Rows L2
end Q
set_option pp.maxSteps 3000
set_option maxHeartbeats 0
namespace Q
open PySem PySem.Spec PyProof.Rows L2
end Q
set_option maxHeartbeats 0
namespace Q
open PySem PySem.Spec PyProof.Rows L2
theorem Sm.names {l : List Nm} (h : ∀ x ∈ l, Q.nm x) : Sms (nmT l) (l.length * 9) 0 := Sms.map fun x hx => .nm (h x hx)
theorem Sm.ents {l : List Ent} (h : ∀ x ∈ l, x.Ok) : Sms (enT l) (l.length * 61) 1 := Sms.map fun x hx => .ent (h x hx)
theorem Sm.house {h : Hs} (ok : h.Ok) : Sm h.t 2000 3 := by
  have p6 := ok.p6
  have g3 := ok.g3
  have e30 := ok.e30
  exact (Sm.tup (d := 2) (.cons (Sm.tup (d := 0) (Sm.names ok.pn)|>.mono (Nat.le_refl _) (by omega)) (.cons ((Sm.tup (d := 0) (Sm.names ok.gn)).mono (Nat.le_refl _) (by omega)) (.cons (Sm.tup (d := 1) (Sm.ents ok.eo)) .nil)))).mono (by omega) (by omega)
theorem joq {xs : List T} {k : Int} (h : 0 ≤ k) : cutT xs (some k) none = xs.drop k.toNat := by
  unfold cutT
  have e : HT.sIx xs.length 0 (some k) = min k.toNat xs.length := by
    have := HT.sIx_nat xs.length 0 k.toNat
    rw [show ((k.toNat : Nat) : Int) = k by omega] at this
    exact this
  rw [show HT.sIx xs.length xs.length none = xs.length from rfl, e]
  by_cases c : k.toNat ≤ xs.length
  · rw [Nat.min_eq_left c, List.take_of_length_le (by rw [List.length_drop]; omega)]
  · rw [Nat.min_eq_right (by omega), List.drop_of_length_le (Nat.le_refl _), List.drop_of_length_le (by omega)]; simp
theorem pen0 (ns : List Int) (h : ns.length ≤ 63) : jel [.lst false (ns.map .int)] = .ok (Pen.t ⟨ns, 0, 0⟩) [] ∧ pT 0 ⟨ns, 0, 0⟩ := ⟨pen_ok ns h, ⟨⟨h, by simp, by simp⟩, by simp⟩⟩
end Q
set_option pp.maxSteps 3000
set_option maxHeartbeats 0
namespace Q
open PySem PySem.Spec PyProof.Rows L2
end Q
set_option pp.maxSteps 3000
set_option maxHeartbeats 0
namespace Q
open PySem PySem.Spec PyProof.Rows L2 PySem.W
def dec (i : Int) : Nm := TL.numL i.toNat
theorem dec_len {i : Int} (h : 0 ≤ i) (hi : i ≤ 1000000000) : 1 ≤ (dec i).length ∧ (dec i).length ≤ 10 := by
  constructor
  · have := TL.numL_ne i.toNat
    exact List.length_pos_iff.mpr this
  · exact TL.numL_len (k := 10) (by decide) (by omega)
theorem jor (i : Int) : ∀ c ∈ dec i, 48 ≤ c ∧ c ≤ 57 := fun c hc => TL.numL_digits i.toNat c hc
theorem jh6 (i : Int) {s : Nat} (h : s < 48 ∨ 57 < s) : s ∉ dec i := TL.numL_free h
theorem jmv : ∀ (n : Nat), 10 ≤ n → (TL.numL n).head? ≠ some 48
  | n, h => by
    rw [TL.numL_step h]
    by_cases q : n / 10 < 10
    · rw [TL.numL_lt q]
      simp
      omega
    · have ih := jmv (n / 10) (by omega)
      have ne := TL.numL_ne (n / 10)
      cases z : TL.numL (n / 10) with
      | nil => exact absurd z ne
      | cons a l =>
        rw [z] at ih
        simpa using ih
termination_by n => n
decreasing_by omega
theorem numL_one {n : Nat} (h : n < 10) : (TL.numL n).length = 1 := by rw [TL.numL_lt h]; rfl
theorem chars_S (cs : List Nat) : jge (SX.S cs) = signT cs := by simp [jge, signT]
theorem jos (t : T) : ∀ (cs : List Nat), (∀ c ∈ cs, 48 ≤ c ∧ c ≤ 57) → cs.length ≤ 100 → cLoop [1] (gSlot 1) bYes jef (signT cs) [] [some t, none] = .ok (.lst true (cs.map fun _ => T.bl true), [some t, none]) := fun cs h hl => by
  have m := jgb (own := [1]) (g := gSlot 1) (d := jef) (f := fun _ => .bl true) (ρ := [some t, none]) (xs := signT cs) rfl (by simp [signT]; omega) fun x hx => by
    obtain ⟨c, hc, rfl⟩ := List.mem_map.mp hx
    have fin : fIn [.str (SX.S [c]), .str "0123456789"] = some (.bl true) := by
      have e : ("0123456789" : Str) = SX.S [48, 49, 50, 51, 52, 53, 54, 55, 56, 57] := rfl
      show some (T.bl (!(Builtin.Str.occurrences "0123456789" (SX.S [c]) 0 ("0123456789" : Str).length 1).isEmpty)) = _
      rw [e, SX.in_one]
      have := h c hc
      have : c = 48 ∨ c = 49 ∨ c = 50 ∨ c = 51 ∨ c = 52 ∨ c = 53 ∨ c = 54 ∨ c = 55 ∨ c = 56 ∨ c = 57 := by omega
      rcases this with rfl | rfl | rfl | rfl | rfl | rfl | rfl | rfl | rfl | rfl <;> rfl
    exact ⟨[some t, some (.str (SX.S [c]))], [some t, some (.str (SX.S [c]))], rfl, by (delta jef; (repeat' (first | wide_open with (1, nb_t, nb_f) | fail))), rfl⟩
  rw [m]
  simp [signT]
section
variable (W Z : Str) (BB : List T) (L i : Int) (ln : fLen [.str W] = some (.int L)) (ch : jcs fLe fLe (rC (.int 1)) (rOpN fLen [rVar 0]) (rC (.int 60)) [some (.str W), none] = some (.bl true)) (cp : cLoop [1] (gSlot 1) bYes jef (jge W) [] [some (.str W), none] = .ok (.lst true BB, [some (.str W), none])) (al : fAll [.lst true BB] = some (.bl true))
  (i0 : fIx [.str W, .int 0] = some (.str Z)) (it : fIntS [.str W] = some (.int i))
include ln ch cp al i0 it
theorem whole_ev0 (q : fEq [.str Z, .str "0"] = some (.bl true)) (gt : fGt [.int L, .int 1] = some (.bl false)) : jbx [.str W] = .ok (.int i) [] := by
  (unfold jbx; delta ji2; apply jcz (Nat.le_of_ble_eq_true rfl) <;> (repeat' (first | wide_open with (1, nb_t, nb_f, ch) | fail)))
theorem whole_ev1 (q : fEq [.str Z, .str "0"] = some (.bl false)) : jbx [.str W] = .ok (.int i) [] := by
  (unfold jbx; delta ji2; apply jcz (Nat.le_of_ble_eq_true rfl) <;> (repeat' (first | wide_open with (1, nb_t, nb_f, ch) | fail)))
end
end Q
set_option pp.maxSteps 3000
set_option maxHeartbeats 0
namespace Q
open PySem PySem.Spec PyProof.Rows L2 PySem.W
theorem jot : ∀ l : List Nm, jjd (nmT l) = some (l.map SX.S)
  | [] => rfl
  | x :: l => by
    show (jjd (nmT l)).map (SX.S x :: ·) = _
    rw [jot l]; rfl
def totW (l : List Nm) : Nat := (l.map List.length).sum
theorem jou (o : Bool) (sep : Nm) (l : List Nm) (h : totW l + l.length * sep.length ≤ 100000) : fJoin [sT sep, .lst o (nmT l)] = some (sT (TL.joinL sep l)) := by
  show (match jjd (nmT l) with | some ys => if (ys.map (fun y : Str => y.length)).sum + ys.length * (SX.S sep).length ≤ 16777216 then some (T.str (Txt.join (SX.S sep) ys)) else none | none => none) = _
  rw [jot]
  dsimp only
  rw [SX.lens, List.length_map, SX.S_len, SX.join_S, if_pos (by show totW l + l.length * sep.length ≤ 16777216; omega)]
  rfl
theorem jja {c : Nat} {l : List Nm} (hc : c < 256) (ne : l ≠ []) (h : ∀ p ∈ l, c ∉ p) (hl : (TL.joinL [c] l).length ≤ 100000) : jg2 [sT (TL.joinL [c] l), sT [c]] = some (.lst true (nmT l)) := by
  show (if ((SX.S [c]).length == 0) = false ∧ (SX.S (TL.joinL [c] l)).length + 2 ≤ sizeLine then some (T.lst true ((Txt.split (SX.S (TL.joinL [c] l)) (SX.S [c])).map .str)) else none) = _
  rw [if_pos ⟨by rw [SX.S_len]; rfl, by rw [SX.S_len, sizeLine_eq]; omega⟩, SX.split_S (by simp) (by simpa using hc), SX.spl_join ne h, List.map_map]
  rfl
def tl_ (c : Nat) (l : List Nm) : Nm := (l.map fun w => c :: w).flatten
theorem jbi (c : Nat) (w : Nm) : ∀ l : List Nm, TL.joinL [c] (w :: l) = w ++ tl_ c l
  | [] => by simp [TL.joinL, tl_]
  | x :: l => by
    have ih := jbi c x l
    show w ++ ([c] ++ TL.joinL [c] (x :: l)) = _
    rw [ih]
    simp [tl_]
theorem jho (c : Nat) (w : Nm) (l : List Nm) : tl_ c (w :: l) = c :: (w ++ tl_ c l) := by simp [tl_]
theorem tl_app (c : Nat) (l m : List Nm) : tl_ c (l ++ m) = tl_ c l ++ tl_ c m := by simp [tl_]
theorem tl_len (c : Nat) : ∀ l : List Nm, (tl_ c l).length = totW l + l.length
  | [] => rfl
  | x :: l => by
    have ih := tl_len c l
    rw [jho, List.length_cons, List.length_append, ih]
    simp [totW]
    omega
theorem jgy (c : Nat) (l : List Nm) : (TL.joinL [c] l).length ≤ totW l + l.length := by
  cases l with
  | nil => simp [TL.joinL]
  | cons x l =>
    rw [jbi, List.length_append, tl_len]
    simp [totW]
    omega
theorem jkn {l : List Nm} {k : Nat} (h : ∀ p ∈ l, p.length ≤ k) : totW l ≤ l.length * k := by
  induction l with
  | nil => simp [totW]
  | cons x l ih =>
    have a := ih fun p hp => h p (List.mem_cons_of_mem _ hp)
    have b := h x List.mem_cons_self
    have e : totW (x :: l) = x.length + totW l := by simp [totW]
    rw [e, List.length_cons, Nat.add_mul]
    omega
def outW (q : Nm) : Nm := if q = [] then [45] else q
def Ent.wdL : Ent → Nm
  | .come .. => [99, 111, 109, 101]
  | .go .. => [103, 111]
  | .move .. => [109, 111, 118, 101]
  | .some .. => [115, 111, 109, 101]
  | .swap .. => [115, 119, 97, 112]
  | .count .. => [99, 111, 117, 110, 116]
  | .look .. => [108, 111, 111, 107]
def Ent.wr : Ent → List Nm
  | .come n t g p a c => [n, dec t, g, p, dec a, dec c]
  | .go n t g p a => [n, dec t, g, p, dec a]
  | .move n t g p q a => [n, dec t, g, p, q, dec a]
  | .some n t g p q => [n, dec t, g, p, outW q]
  | .swap n t p q => [n, dec t, p, q]
  | .count n t g p a h => [n, dec t, g, p, dec a, h]
  | .look n t g p => [n, dec t, g, p]
def Ent.ws (e : Ent) : List Nm := e.wdL :: e.wr
def Ent.line (e : Ent) : Nm := TL.joinL [32] e.ws
theorem jf5 {n : Nm} (h : nm n) {c : Nat} (hc : c < 97 ∨ 122 < c) : c ∉ n := fun z => by
  have := h.2.2 c z
  unfold low at this
  omega
theorem nm_len {n : Nm} (h : nm n) : 1 ≤ n.length ∧ n.length ≤ 8 := ⟨h.1, h.2.1⟩
def Wo (w : Nm) : Prop := 1 ≤ w.length ∧ w.length ≤ 10 ∧ 32 ∉ w ∧ 10 ∉ w
theorem Wo.nm {n : Nm} (h : nm n) : Wo n := ⟨(nm_len h).1, by have := (nm_len h).2; omega, jf5 h (.inl (by decide)), jf5 h (.inl (by decide))⟩
theorem Wo.dec {i : Int} (h : 0 ≤ i) (hi : i ≤ 1000000000) : Wo (dec i) := ⟨(dec_len h hi).1, (dec_len h hi).2, jh6 i (.inl (by decide)), jh6 i (.inl (by decide))⟩
theorem jov {c d : Nat} (hd : d ≠ c) {l : List Nm} (h : ∀ p ∈ l, d ∉ p) : d ∉ TL.joinL [c] l := by
  cases l with
  | nil => simp [TL.joinL]
  | cons x l =>
    rw [jbi, List.mem_append]
    rintro (z | z)
    · exact h x List.mem_cons_self z
    · unfold tl_ at z
      obtain ⟨y, hy, z⟩ := List.mem_flatten.mp z
      obtain ⟨w, hw, rfl⟩ := List.mem_map.mp hy
      rcases List.mem_cons.mp z with z | z
      · exact hd z
      · exact h w (List.mem_cons_of_mem _ hw) z
def WFw (ps : List T) (ws : List Nm) : Prop := ps.length = ws.length ∧ ∀ (j : Nat) (p : T) (w : Nm), ps[j]? = some p → ws[j]? = some w → jmq [p] = .ok (sT w) [] ∧ p.fr = true
theorem WFw.nil : WFw [] [] := ⟨rfl, fun j p w h => by simp at h⟩
theorem WFw.cons {p : T} {w : Nm} {ps : List T} {ws : List Nm} (h : jmq [p] = .ok (sT w) []) (f : p.fr = true) (hs : WFw ps ws) : WFw (p :: ps) (w :: ws) := ⟨by simp [hs.1], fun j p2 w2 h1 h2 => by
  cases j with
  | zero =>
    simp at h1 h2
    subst h1 h2
    exact ⟨h, f⟩
  | succ j =>
    simp at h1 h2
    exact hs.2 j p2 w2 h1 h2⟩
end Q
set_option pp.maxSteps 3000
set_option maxHeartbeats 0
namespace Q
open PySem PySem.Spec PyProof.Rows L2 PySem.W
theorem pls_nm : ∀ l : List Nm, pls (nmT l) = true
  | [] => rfl
  | x :: l => by show ((sT x).pl && pls (nmT l)) = true; rw [pls_nm l]; rfl
theorem deps_nm : ∀ l : List Nm, deps (nmT l) = 0
  | [] => rfl
  | x :: l => by show max (sT x).dep (deps (nmT l)) = 0; rw [deps_nm l]; rfl
section
variable (L : T) (w : Str) (WS PS NS : List T) (n : Int) (fL : L.fr = true) (sp : jg2 [L, .str " "] = some (.lst true WS)) (fWS : frs WS = true) (i0 : fIx [.lst true WS, .int 0] = some (.str w)) (k1 : fNot (fKin k_SIZES) [.str w] = some (.bl false)) (ln : fLen [.lst true WS] = some (.int n)) (kx : fKix k_SIZES v_SIZES [.str w] = some (.int n)) (e0 : fIn [.str "", .lst true WS] = some (.bl false))
  (kn : fKix k_NUMBERS v_NUMBERS [.str w] = some (.con NS)) (fNS : frs NS = true) (lp : fLoop (gSlot 2) jls NS [some L, some (.lst true WS), none] = .nx [some L, some (.lst true PS), none]) (j0 : fIx [.lst true PS, .int 0] = some (.str w)) (fPS : frs PS = true) (zPS : fzs PS = PS)
include fL sp fWS i0 k1 ln kx e0 kn fNS lp j0 fPS zPS
end
end Q
set_option pp.maxSteps 3000
set_option maxHeartbeats 0
namespace Q
open PySem PySem.Spec PyProof.Rows L2 PySem.W
theorem jha {a b : Nm} (h : a.length + b.length ≤ 100000) : fAddR [sT a, sT b] = some (sT (a ++ b)) := by
  show (if (SX.S a).length + (SX.S b).length ≤ sizeLine then some (T.str (SX.S a ++ SX.S b)) else none) = _
  rw [SX.S_len, SX.S_len, if_pos (by rw [sizeLine_eq]; omega), SX.S_cat]
  rfl
section
variable (E A B C S p : T) (fp : p.fr = true) (fB : B.fr = true) (fA : A.fr = true)
include fp fB fA
end
end Q
set_option pp.maxSteps 3000
set_option maxHeartbeats 0
namespace Q
open PySem PySem.Spec PyProof.Rows L2 PySem.W
def wPl : Nm := [112, 108, 97, 99, 101, 115]
def wGd : Nm := [103, 111, 111, 100, 115]
def Hs.l0 (h : Hs) : Nm := TL.joinL [32] (wPl :: h.pl)
def Hs.l1 (h : Hs) : Nm := TL.joinL [32] (wGd :: h.gd)
def Hs.ls (h : Hs) : List Nm := h.l0 :: h.l1 :: h.es.map Ent.line
def Hs.text (h : Hs) : Nm := TL.joinL [10] h.ls
section
variable (H A B C N : T) (s3 s4 : Option T) (fA : A.fr = true) (fN : N.fr = true) (fB : B.fr = true) (fC : C.fr = true)
include fA fN fB fC
end
theorem jgp {a b : Nm} (h : a.length + b.length ≤ 100000) : fCat [sT a, sT b] = some (sT (a ++ b)) := by
  show (if (SX.S a).length + (SX.S b).length ≤ sizeLine then some (T.str (SX.S a ++ SX.S b)) else none) = _
  rw [SX.S_len, SX.S_len, if_pos (by rw [sizeLine_eq]; omega), SX.S_cat]
  rfl
end Q
set_option pp.maxSteps 3000
set_option maxHeartbeats 0
namespace Q
open PySem PySem.Spec PyProof.Rows L2 PySem.W
def P60 : Int := ((10 ^ 60 : Nat) : Int)
theorem P60_pos : 1000000000000000000 < P60 := by unfold P60; decide
theorem lt60 {i : Int} (h : 0 ≤ i) (hi : i < P60) : i.toNat < 10 ^ 60 := by
  have : ((i.toNat : Nat) : Int) < ((10 ^ 60 : Nat) : Int) := by rw [Int.toNat_of_nonneg h]; exact hi
  exact Int.ofNat_lt.mp this
theorem log60 {n : Nat} (h : n < 10 ^ 60) : n.log2 < 1920 := by
  by_cases z : n = 0
  · rw [z]; decide
  · rw [Nat.log2_lt z]
    exact Nat.lt_of_lt_of_le h (Nat.le_trans (show 10 ^ 60 ≤ 2 ^ 200 by decide) (Nat.pow_le_pow_right (n := 2) (i := 200) (j := 1920) (by decide) (by omega)))
theorem jmw {i : Int} (h : 0 ≤ i) (hi : i < P60) : fStr [.int i] = some (sT (dec i)) := by
  have l : i.natAbs.log2 < 1920 := log60 (by have := lt60 h hi; rwa [show i.natAbs = i.toNat by omega])
  show (if i.natAbs.log2 < 1920 then some (T.str (toString i)) else none) = _
  rw [if_pos l]
  have q := SX.num_S i.toNat
  rw [Int.toNat_of_nonneg h] at q
  show some (T.str (Str.ofString (toString i))) = _
  rw [q]; rfl
def decZ (i : Int) : Nm := if i < 0 then 45 :: dec (-i) else dec i
theorem neg_str {n : Nat} (h : 0 < n) : Str.ofString (toString (-(n : Int))) = SX.S (45 :: TL.numL n) := by
  obtain ⟨m, rfl⟩ : ∃ m, n = m + 1 := ⟨n - 1, by omega⟩
  have e : toString (-((m + 1 : Nat) : Int)) = "-" ++ toString ((m + 1 : Nat) : Int) := rfl
  have q := SX.num_S (m + 1)
  have q2 : (Str.ofString (toString ((m + 1 : Nat) : Int))).cps.toList = TL.numL (m + 1) := TL.tl_num (m + 1)
  rw [signs_ofString] at q2
  refine TL.ext_tl ?_
  show (Str.ofString (toString (-((m + 1 : Nat) : Int)))).cps.toList = _
  rw [e, signs_ofString, String.toList_append, List.map_append, q2]
  rfl
theorem jow {i : Int} (h1 : -P60 < i) (h2 : i < P60) : fStr [.int i] = some (sT (decZ i)) := by
  unfold decZ
  by_cases z : i < 0
  · rw [if_pos z]
    have p := neg_str (n := (-i).toNat) (by omega)
    have e : -(((-i).toNat : Nat) : Int) = i := by omega
    rw [e] at p
    have l : i.natAbs.log2 < 1920 := log60 (by have := lt60 (i := -i) (by omega) (by omega); rwa [show i.natAbs = (-i).toNat by omega])
    show (if i.natAbs.log2 < 1920 then some (T.str (toString i)) else none) = _
    rw [if_pos l]
    show some (T.str (Str.ofString (toString i))) = _
    rw [p]; rfl
  · rw [if_neg z]; exact jmw (by omega) h2
theorem jgz {i : Int} (h : 0 ≤ i) (hi : i < P60) : 1 ≤ (dec i).length ∧ (dec i).length ≤ 60 :=
  ⟨List.length_pos_iff.mpr (TL.numL_ne i.toNat), TL.numL_len (k := 60) (by decide) (lt60 h hi)⟩
theorem jjb {i : Int} (h : 0 ≤ i) (hi : i < P60) : jbx [sT (dec i)] = .ok (.int i) [] := by
  obtain ⟨l1, l2⟩ := jgz h hi
  have cp := jos (sT (dec i)) (dec i) (jor i) (by omega)
  rw [← chars_S] at cp
  have al : fAll [.lst true ((dec i).map fun _ => T.bl true)] = some (.bl true) := by
    have b : je6 ((dec i).map fun _ => T.bl true) = some ((dec i).map fun _ => true) := by
      induction dec i with
      | nil => rfl
      | cons a l ih => rw [List.map_cons, je6, ih]; rfl
    show (je6 ((dec i).map fun _ => T.bl true)).map (fun bs => T.bl (bs.all id)) = _
    rw [b]
    simp
  obtain ⟨L, hL⟩ : ∃ L : Int, L = (dec i).length := ⟨_, rfl⟩
  have sz : (SX.S (dec i)).length ≤ sizeLine := by rw [SX.S_len, sizeLine_eq]; omega
  have ln : fLen [sT (dec i)] = some (.int L) := by
    show fLen [.str (SX.S (dec i))] = _
    rw [jby, if_pos sz, SX.S_len, hL]
  have ch : jcs fLe fLe (rC (.int 1)) (rOpN fLen [rVar 0]) (rC (.int 60)) [some (sT (dec i)), none] = some (.bl true) := by
    have x1 : rOp2 fLe (rC (.int 1)) (rOpN fLen [rVar 0]) [some (sT (dec i)), none] = some (.bl (decide ((1 : Int) ≤ L))) := by
      show (match some (T.int 1), fLen [sT (dec i)] with | some t, some u => fLe [t, u] | _, _ => none) = _
      rw [ln]; rfl
    have x2 : rOp2 fLe (rOpN fLen [rVar 0]) (rC (.int 60)) [some (sT (dec i)), none] = some (.bl (decide (L ≤ 60))) := by
      show (match fLen [sT (dec i)], some (T.int 60) with | some t, some u => fLe [t, u] | _, _ => none) = _
      rw [ln]; rfl
    unfold jcs
    rw [x1, decide_eq_true (by omega)]
    dsimp only
    rw [x2, decide_eq_true (by omega)]
  obtain ⟨c, r, hc⟩ : ∃ c r, dec i = c :: r := by
    cases z : dec i with
    | nil => rw [z] at l1; simp at l1
    | cons c r => exact ⟨c, r, rfl⟩
  have i0 : fIx [sT (dec i), .int 0] = some (sT [c]) := by
    show fIx [.str (SX.S (dec i)), .int 0] = _
    rw [jdm, if_pos sz, show (SX.S (dec i)).cps.toList = c :: r from hc, show atI (c :: r) 0 = some c from by simp [atI, ixN]]
    rfl
  have q : fEq [sT [c], .str "0"] = some (.bl (decide (c = 48))) := by
    show some (T.bl (SX.S [c] == SX.S [48])) = _
    rw [SX.S_beq_eq]
    simp
  have it : fIntS [sT (dec i)] = some (.int i) := by
    have e : (i.toNat : Int) = i := by omega
    have n := TL.int_num (n := i.toNat) (by have : (TL.numL i.toNat).length ≤ 60 := l2; omega)
    rw [SX.num_S, e] at n
    show (if (SX.S (TL.numL i.toNat)).length ≤ 640 then (PySem.intText? (SX.S (TL.numL i.toNat))).map T.int else none) = _
    rw [n, if_pos]
    · rfl
    · rw [SX.S_len]
      have : (TL.numL i.toNat).length ≤ 60 := l2
      omega
  have cp' : cLoop [1] (gSlot 1) bYes jef (jge (SX.S (dec i))) [] [some (.str (SX.S (dec i))), none] = .ok (.lst true ((dec i).map fun _ => T.bl true), [some (.str (SX.S (dec i))), none]) := cp
  by_cases g : c = 48
  · have one : L = 1 := by
      by_cases t : i.toNat < 10
      · have := numL_one t
        rw [hL]
        exact congrArg Int.ofNat this
      · have hh := jmv i.toNat (by omega)
        have : (TL.numL i.toNat) = c :: r := hc
        rw [this, g] at hh
        exact absurd rfl hh
    have gt : fGt [.int L, .int 1] = some (.bl false) := by rw [one]; rfl
    rw [g] at q i0
    exact whole_ev0 _ _ _ L i ln ch cp' al i0 it q gt
  · rw [decide_eq_false g] at q
    exact whole_ev1 _ _ _ L i ln ch cp' al i0 it q
theorem jox (W Z X : T) (fW : W.fr = true) (i : Int) (sl : fCut W none (some 1) = some Z) (ne : fNe [Z, .str "-"] = some (.bl true)) (wh : jbx [W] = .ok (.int i) []) : jdd [W] = .ok (.int i) [] := by
  have nn : jc4 [.int i, .non] = some (.bl true) := rfl
  have nd : jbw [.bl true] = .ok .non [] := by (unfold jbw; delta jht; apply jcz (Nat.le_of_ble_eq_true rfl) <;> (repeat' (first | wide_open with (1, nb_t, nb_f) | fail)))
  (unfold jdd; delta jhu; apply jcz (Nat.le_of_ble_eq_true rfl) <;> (repeat' (first | wide_open with (1, nb_t, nb_f) | fail)))
theorem joy (W Z Y : T) (fW : W.fr = true) (fY : Y.fr = true) (i : Int) (sl : fCut W none (some 1) = some Z) (ne : fNe [Z, .str "-"] = some (.bl false)) (zY : Y.fz = Y) (sl2 : fCut W (some 1) none = some Y) (wh : jbx [Y] = .ok (.int i) []) (gt : fGt [.int i, .int 0] = some (.bl true)) : jdd [W] = .ok (.int (-i)) [] := by
  have nn : jc4 [.int i, .non] = some (.bl true) := rfl
  have nd : jbw [.bl true] = .ok .non [] := by (unfold jbw; delta jht; apply jcz (Nat.le_of_ble_eq_true rfl) <;> (repeat' (first | wide_open with (1, nb_t, nb_f) | fail)))
  have sb : fSub [.int 0, .int i] = some (.int (-i)) := by rw [eo_sb]; simp
  (unfold jdd; delta jhu; apply jcz (Nat.le_of_ble_eq_true rfl) <;> (repeat' (first | wide_open with (1, nb_t, nb_f) | fail)))
end Q
set_option pp.maxSteps 3000
set_option maxHeartbeats 0
namespace Q
open PySem PySem.Spec PyProof.Rows L2 PySem.W
mutual
theorem fz6_fr : ∀ t : T, t.fr = true → t.fz = t
  | .non, _ => rfl
  | .bl _, _ => rfl
  | .int _, _ => rfl
  | .str _, _ => rfl
  | .tup xs, h => congrArg T.tup (jg3 xs h)
  | .con xs, h => congrArg T.con (jg3 xs h)
  | .lst o xs, h => by
    rw [T.fr, Bool.and_eq_true] at h
    rw [T.fz, jg3 xs h.2]
    cases o with
    | false => rfl
    | true => cases h.1
  | .dic o tk ks vs, h => by
    rw [T.fr, Bool.and_eq_true] at h
    rw [T.fz, jg3 vs h.2]
    cases o with
    | false => rfl
    | true => cases h.1
  | .ins o c ns vs, h => by
    rw [T.fr, Bool.and_eq_true] at h
    rw [T.fz, jg3 vs h.2]
    cases o with
    | false => rfl
    | true => cases h.1
theorem jg3 : ∀ ts : List T, frs ts = true → fzs ts = ts
  | [], _ => rfl
  | t :: ts, h => by
    rw [frs, Bool.and_eq_true] at h
    rw [fzs, fz6_fr t h.1, jg3 ts h.2]
end
def pcY (p : Nm × Int) : Nm := p.1 ++ 58 :: dec p.2
abbrev pcX (p : Nm × Int) : T := .tup [sT p.1, .int p.2]
def PcOk (p : Nm × Int) : Prop := nm p.1 ∧ 0 ≤ p.2 ∧ p.2 < 100
abbrev Stp6 := (Nm × Nm) × Bool
abbrev tieT (t : Nm × Nm) : T := .tup [sT t.1, sT t.2]
abbrev stT (s : Stp6) : T := .tup [tieT s.1, .bl s.2]
def tieW (t : Nm × Nm) : Nm := t.1 ++ 58 :: t.2
def stW (s : Stp6) : Nm := (if s.2 then 43 else 45) :: tieW s.1
def wds6 : List Nm := [[98, 101, 103, 105, 110], [108, 111, 111, 107], [110, 111, 119], [115, 111, 109, 101]]
theorem jne : ∀ w ∈ wds6, nm w := by
  intro w hw
  simp only [wds6, List.mem_cons, List.not_mem_nil, or_false] at hw
  rcases hw with rfl | rfl | rfl | rfl <;> exact ⟨by decide, by decide, fun c hc => by simp only [List.mem_cons, List.not_mem_nil, or_false] at hc; unfold low; omega⟩
def TieOk (t : Nm × Nm) : Prop := t.1 ∈ wds6 ∧ nm t.2
theorem jld {acc a : Nm} (h : acc.length + a.length ≤ 1000) (ts : List T) : fmtF (SX.S acc) (sT a :: ts) = fmtF (SX.S (acc ++ a)) ts := by
  show (if (SX.S a).length ≤ sizeLine ∧ (SX.S acc ++ SX.S a).length ≤ sizeLine then fmtF (SX.S acc ++ SX.S a) ts else none) = _
  rw [SX.S_cat, SX.S_len, SX.S_len, if_pos (by rw [sizeLine_eq]; simp; omega)]
theorem fmt_int {acc : Nm} {k : Int} (h : acc.length ≤ 1000) (k0 : 0 ≤ k) (k1 : k < P60) (ts : List T) : fmtF (SX.S acc) (.int k :: ts) = fmtF (SX.S (acc ++ dec k)) ts := by
  have q := SX.num_S k.toNat
  rw [Int.toNat_of_nonneg k0] at q
  have l := (jgz k0 k1).2
  show (if k.natAbs.log2 < 1920 ∧ (SX.S acc ++ Str.ofString (toString k)).length ≤ sizeLine then fmtF (SX.S acc ++ Str.ofString (toString k)) ts else none) = _
  rw [q, SX.S_cat, SX.S_len, if_pos ⟨log60 (by have := lt60 k0 k1; rwa [show k.natAbs = k.toNat by omega]), by rw [sizeLine_eq, List.length_append]; have : (TL.numL k.toNat).length ≤ 60 := l; omega⟩]
  rfl
theorem lt100 {k : Int} (h : k < 100) : k < P60 := by have := P60_pos; omega
theorem fmt_pc {p : Nm × Int} (h : PcOk p) : fFmt [sT p.1, .str ":", .int p.2] = some (sT (pcY p)) := by
  have l := nm_len h.1
  show (fmtF (SX.S []) (sT p.1 :: sT [58] :: .int p.2 :: [])).map T.str = _
  rw [jld (by simp; omega), jld (by simp; omega), fmt_int (by simp; omega) h.2.1 (lt100 h.2.2)]
  show some (sT (([] ++ p.1 ++ [58]) ++ dec p.2)) = _
  simp [pcY]
theorem fmt_tie {t : Nm × Nm} (h : TieOk t) : fFmt [sT t.1, .str ":", sT t.2] = some (sT (tieW t)) := by
  have l := nm_len (jne _ h.1)
  have l2 := nm_len h.2
  show (fmtF (SX.S []) (sT t.1 :: sT [58] :: sT t.2 :: [])).map T.str = _
  rw [jld (by simp; omega), jld (by simp; omega), jld (by simp; omega)]
  show some (sT (([] ++ t.1 ++ [58]) ++ t.2)) = _
  simp [tieW]
theorem pair_ev (A B X : T) (fA : A.fr = true) (fB : B.fr = true) (f : fFmt [A, .str ":", B] = some X) (fX : X.fr = true) : jdc [.tup [A, B]] = .ok X [] := by
  (unfold jdc; delta jjl; apply jcz (Nat.le_of_ble_eq_true rfl) <;> (repeat' (first | wide_open with (1, nb_t, nb_f) | fail)))
theorem pair_pc {p : Nm × Int} (h : PcOk p) : jdc [pcX p] = .ok (sT (pcY p)) [] := pair_ev _ _ _ rfl rfl (fmt_pc h) rfl
theorem pair_tie {t : Nm × Nm} (h : TieOk t) : jdc [tieT t] = .ok (sT (tieW t)) [] := pair_ev _ _ _ rfl rfl (fmt_tie h) rfl
theorem pcW_len {p : Nm × Int} (h : PcOk p) : 1 ≤ (pcY p).length ∧ (pcY p).length ≤ 69 := by
  have := nm_len h.1
  have := jgz h.2.1 (lt100 h.2.2)
  simp [pcY]; omega
theorem joz {t : Nm × Nm} (h : TieOk t) : (tieW t).length ≤ 17 := by
  have := nm_len (jne _ h.1)
  have := nm_len h.2
  simp [tieW]; omega
theorem stW_len {s : Stp6} (h : TieOk s.1) : 1 ≤ (stW s).length ∧ (stW s).length ≤ 18 := by
  have := joz h
  simp [stW]; omega
def lsW (ws : List Nm) : List Nm := if ws = [] then [[46]] else ws
def listW (ws : List Nm) : Nm := TL.joinL [32] (lsW ws)
theorem jo0 : ∀ l m : List Nm, eqvs (nmT l) (nmT m) = decide (l = m)
  | [], [] => rfl
  | [], _ :: _ => rfl
  | _ :: _, [] => rfl
  | a :: l, b :: m => by
    show ((sT a).eqv (sT b) && eqvs (nmT l) (nmT m)) = _
    rw [jo0 l m]
    have : (sT a).eqv (sT b) = decide (a = b) := SX.S_beq_eq
    rw [this]
    by_cases h : a = b <;> by_cases h2 : l = m <;> simp [h, h2]
theorem jmx (o : Bool) (l : List Nm) : (T.lst o (nmT l)).eqOk = true := by
  simp [T.eqOk, T.pl, T.dep, pls_nm, deps_nm]
theorem eq_nms (o o' : Bool) (l m : List Nm) : fEq [.lst o (nmT l), .lst o' (nmT m)] = some (.bl (decide (l = m))) := by
  show (if ((T.lst o (nmT l)).eqOk && (T.lst o' (nmT m)).eqOk) = true then some (T.bl ((T.lst o (nmT l)).eqv (T.lst o' (nmT m)))) else none) = _
  rw [jmx, jmx, if_pos (by rfl)]
  show some (T.bl (eqvs (nmT l) (nmT m))) = _
  rw [jo0]
theorem ne_nms6 (o o' : Bool) (l m : List Nm) : fNe [.lst o (nmT l), .lst o' (nmT m)] = some (.bl (!decide (l = m))) := by
  show (if ((T.lst o (nmT l)).eqOk && (T.lst o' (nmT m)).eqOk) = true then some (T.bl (!((T.lst o (nmT l)).eqv (T.lst o' (nmT m))))) else none) = _
  rw [jmx, jmx, if_pos (by rfl)]
  show some (T.bl (!eqvs (nmT l) (nmT m))) = _
  rw [jo0]
theorem jo1 (W : T) (fW : W.fr = true) (e : fEq [W, .lst true []] = some (.bl true)) : jeq [W] = .ok (.str ".") [] := by (unfold jeq; delta jlt; apply jcz (Nat.le_of_ble_eq_true rfl) <;> (repeat' (first | wide_open with (1, nb_t, nb_f) | fail)))
theorem jo2 (W X : T) (fW : W.fr = true) (e : fEq [W, .lst true []] = some (.bl false)) (j : fJoin [.str " ", W] = some X) (fX : X.fr = true) : jeq [W] = .ok X [] := by (unfold jeq; delta jlt; apply jcz (Nat.le_of_ble_eq_true rfl) <;> (repeat' (first | wide_open with (1, nb_t, nb_f) | fail)))
theorem jmy {ws : List Nm} (hl : ws.length ≤ 20) (h : ∀ w ∈ ws, w.length ≤ 80) : jeq [.lst false (nmT ws)] = .ok (sT (listW ws)) [] := by
  have e := eq_nms false true ws []
  by_cases z : ws = []
  · subst z
    exact jo1 _ rfl e
  · rw [decide_eq_false z] at e
    have t := jkn (l := ws) (k := 80) h
    have j := jou false [32] ws (by simp; omega)
    have r := jo2 (.lst false (nmT ws)) _ (jd1 ws) e j rfl
    rw [r]
    simp [listW, lsW, z]
theorem jg0 {ws : List Nm} (hl : ws.length ≤ 20) (h : ∀ w ∈ ws, w.length ≤ 80) : (listW ws).length ≤ 1700 := by
  have h2 : ∀ w ∈ lsW ws, w.length ≤ 80 := fun w hw => by
    unfold lsW at hw
    split at hw
    · simp at hw; rw [hw]; decide
    · exact h w hw
  have l2 : (lsW ws).length ≤ 20 := by
    unfold lsW
    split
    · simp
    · exact hl
  have := jgy 32 (lsW ws)
  have := jkn h2
  unfold listW
  omega
def wKn : Nm := [107, 110, 111, 119, 110]
def wFr : Nm := [102, 114, 101, 101]
def kWs (a : Int) (ps : List (Nm × Int)) : List Nm := wKn :: decZ a :: lsW (ps.map pcY)
def fWs (ss : List Stp6) : List Nm := wFr :: lsW (ss.map stW)
abbrev kT (o : Bool) (a : Int) (ps : List (Nm × Int)) : T := .tup [.str "known", .int a, .lst o (ps.map pcX)]
abbrev fT6 (o : Bool) (ss : List Stp6) : T := .tup [.str "free", .lst o (ss.map stT)]
theorem jko : ∀ ps : List (Nm × Int), frs (ps.map pcX) = true
  | [] => rfl
  | _ :: ps => by show (true && frs (ps.map pcX)) = true; rw [jko ps]; rfl
theorem pcs_fz (ps : List (Nm × Int)) : fzs (ps.map pcX) = ps.map pcX := jg3 _ (jko ps)
theorem jma : ∀ ss : List Stp6, frs (ss.map stT) = true
  | [] => rfl
  | _ :: ss => by show (true && frs (ss.map stT)) = true; rw [jma ss]; rfl
theorem sts_fz (ss : List Stp6) : fzs (ss.map stT) = ss.map stT := jg3 _ (jma ss)
theorem tt_c1 (P : T) {ps : List (Nm × Int)} (hl : ps.length ≤ 20) (h : ∀ p ∈ ps, PcOk p) : cLoop [1] (gSlot 1) bYes jem (ps.map pcX) [] [some P, none, none, none] = .ok (.lst true (nmT (ps.map pcY)), [some P, none, none, none]) := by
  have m := jgb (own := [1]) (g := gSlot 1) (d := jem) (f := fun t => match t with | .tup [.str n, .int k] => sT (pcY (n.cps.toList, k)) | _ => .non) (ρ := [some P, none, none, none]) (xs := ps.map pcX) rfl (by simp; omega) fun x hx => by
    obtain ⟨p, hp, rfl⟩ := List.mem_map.mp hx
    have e := pair_pc (h p hp)
    refine ⟨[some P, some (pcX p), none, none], [some P, some (pcX p), none, none], rfl, ?_, rfl⟩
    show _ = R.ok (sT (pcY p), _)
    have hX : (pcX p).fr = true := rfl
    generalize pcX p = X at e hX
    have fX : X.fr = true := hX
    (delta jem; (repeat' (first | wide_open with (1, nb_t, nb_f) | fail)))
  rw [m, nmT, List.map_map, List.map_map]
  rfl
end Q
set_option pp.maxSteps 3000
set_option maxHeartbeats 0
namespace Q
open PySem PySem.Spec PyProof.Rows L2 PySem.W
theorem tt_c2 (P : T) {ss : List Stp6} (hl : ss.length ≤ 20) (h : ∀ s ∈ ss, TieOk s.1) : cLoop [2, 3] (gTree 2 (jbl (gSlot 2) (jbl (gSlot 3) gsNil))) bYes jd4 (ss.map stT) [] [some P, none, none, none] = .ok (.lst true (nmT (ss.map stW)), [some P, none, none, none]) := by
  have m := jgb (own := [2, 3]) (g := gTree 2 (jbl (gSlot 2) (jbl (gSlot 3) gsNil))) (d := jd4) (f := fun t => match t with | .tup [.tup [.str a, .str b], .bl c] => sT (stW ((a.cps.toList, b.cps.toList), c)) | _ => .non) (ρ := [some P, none, none, none]) (xs := ss.map stT) rfl (by simp; omega) fun x hx => by
    obtain ⟨⟨t, c⟩, hs, rfl⟩ := List.mem_map.mp hx
    have ht := h _ hs
    have e : jdc [tieT t] = .ok (sT (tieW t)) [] := pair_tie ht
    have l : (tieW t).length ≤ 17 := joz ht
    refine ⟨[some P, none, some (tieT t), some (.bl c)], [some P, none, some (tieT t), some (.bl c)], rfl, ?_, rfl⟩
    show _ = R.ok (sT (stW (t, c)), _)
    have hX : (tieT t).fr = true := rfl
    generalize tieT t = X at e hX
    cases c with
    | true =>
      have i1 : fInt [.bl true] = some (.int 1) := rfl
      have c1 : fCat [.str "+", sT (tieW t)] = some (sT (stW (t, true))) := jgp (a := [43]) (b := tieW t) (by simp; omega)
      (delta jd4; (repeat' (first | wide_open with (1, nb_t, nb_f) | fail)))
    | false =>
      have i1 : fInt [.bl false] = some (.int 0) := rfl
      have c1 : fCat [.str "-", sT (tieW t)] = some (sT (stW (t, false))) := jgp (a := [45]) (b := tieW t) (by simp; omega)
      (delta jd4; (repeat' (first | wide_open with (1, nb_t, nb_f) | fail)))
  rw [m, nmT, List.map_map, List.map_map]
  rfl
theorem told_evK (P S S1 S2 L R : T) (PS WS : List T) (a : Int) (fP : frs PS = true) (f0 : fIx [P, .int 0] = some (.str "known")) (f1 : fIx [P, .int 1] = some (.int a)) (f2 : fIx [P, .int 2] = some (.lst false PS)) (st : fStr [.int a] = some S) (a1 : fAddR [.str "known ", S] = some S1) (a2 : fAddR [S1, .str " "] = some S2) (fS : S2.fr = true)
    (cp : cLoop [1] (gSlot 1) bYes jem PS [] [some P, none, none, none] = .ok (.lst true WS, [some P, none, none, none])) (zW : fzs WS = WS) (fW : frs WS = true) (li : jeq [.lst false WS] = .ok L []) (ct : fCat [S2, L] = some R) : jct [P] = .ok R [] := by
  have e : fEq [.str "known", .str "known"] = some (.bl true) := jg9 _
  (unfold jct; delta jhv; apply jcz (Nat.le_of_ble_eq_true rfl) <;> (repeat' (first | wide_open with (1, nb_t, nb_f, cp) | fail)))
theorem told_evF (P L R : T) (PS WS : List T) (fP : frs PS = true) (f0 : fIx [P, .int 0] = some (.str "free")) (f1 : fIx [P, .int 1] = some (.lst false PS))
    (cp : cLoop [2, 3] (gTree 2 (jbl (gSlot 2) (jbl (gSlot 3) gsNil))) bYes jd4 PS [] [some P, none, none, none] = .ok (.lst true WS, [some P, none, none, none])) (zW : fzs WS = WS) (fW : frs WS = true) (li : jeq [.lst false WS] = .ok L []) (ct : fCat [.str "free ", L] = some R) : jct [P] = .ok R [] := by
  have e : fEq [.str "free", .str "known"] = some (.bl false) := by wide_open with (71, at_0)
  (unfold jct; delta jhv; apply jcz (Nat.le_of_ble_eq_true rfl) <;> (repeat' (first | wide_open with (1, nb_t, nb_f, cp) | fail)))
theorem jkp {a : Int} (h1 : -P60 < a) (h2 : a < P60) : 1 ≤ (decZ a).length ∧ (decZ a).length ≤ 61 := by
  unfold decZ
  split
  · have := jgz (i := -a) (by omega) (by omega)
    simp; omega
  · have := jgz (i := a) (by omega) h2
    omega
def kTx (a : Int) (ps : List (Nm × Int)) : Nm := TL.joinL [32] (kWs a ps)
def fTx (ss : List Stp6) : Nm := TL.joinL [32] (fWs ss)
theorem kTx_eq (a : Int) (ps : List (Nm × Int)) : kTx a ps = wKn ++ [32] ++ decZ a ++ [32] ++ listW (ps.map pcY) := by
  unfold kTx kWs listW
  have : lsW (ps.map pcY) ≠ [] := by unfold lsW; split <;> simp_all
  cases z : lsW (ps.map pcY) with
  | nil => exact absurd z this
  | cons w l => rw [jbi, jbi, jho, jho]; simp
theorem fTx_eq (ss : List Stp6) : fTx ss = wFr ++ [32] ++ listW (ss.map stW) := by
  unfold fTx fWs listW
  have : lsW (ss.map stW) ≠ [] := by unfold lsW; split <;> simp_all
  cases z : lsW (ss.map stW) with
  | nil => exact absurd z this
  | cons w l => rw [jbi, jbi, jho]; simp
section
variable {a : Int} {ps : List (Nm × Int)} (h1 : -P60 < a) (h2 : a < P60) (hl : ps.length ≤ 20) (h : ∀ p ∈ ps, PcOk p)
include hl h
theorem pcs_w : (ps.map pcY).length ≤ 20 ∧ ∀ w ∈ ps.map pcY, w.length ≤ 80 :=
  ⟨by simpa using hl, fun w hw => by obtain ⟨p, hp, rfl⟩ := List.mem_map.mp hw; have := (pcW_len (h p hp)).2; omega⟩
include h1 h2
theorem told_K : jct [kT false a ps] = .ok (sT (kTx a ps)) [] := by
  obtain ⟨l1, l2⟩ := pcs_w hl h
  have la := jkp h1 h2
  have ll := jg0 l1 l2
  have a1 := jha (a := wKn ++ [32]) (b := decZ a) (by simp [wKn]; omega)
  have a2 := jha (a := wKn ++ [32] ++ decZ a) (b := [32]) (by simp [wKn]; omega)
  have c := jgp (a := wKn ++ [32] ++ decZ a ++ [32]) (b := listW (ps.map pcY)) (by simp [wKn]; omega)
  rw [kTx_eq]
  exact told_evK _ _ _ _ _ _ _ _ a (jko ps) at_0 at_1 at_2 (jow h1 h2) a1 a2 rfl (tt_c1 _ hl h) (jf4 _) (jd1 _) (jmy l1 l2) c
end
section
variable {ss : List Stp6} (hl : ss.length ≤ 20) (h : ∀ s ∈ ss, TieOk s.1)
include hl h
theorem sts_w : (ss.map stW).length ≤ 20 ∧ ∀ w ∈ ss.map stW, w.length ≤ 80 :=
  ⟨by simpa using hl, fun w hw => by obtain ⟨p, hp, rfl⟩ := List.mem_map.mp hw; have := (stW_len (h p hp)).2; omega⟩
theorem told_F : jct [fT6 false ss] = .ok (sT (fTx ss)) [] := by
  obtain ⟨l1, l2⟩ := sts_w hl h
  have ll := jg0 l1 l2
  have c := jgp (a := wFr ++ [32]) (b := listW (ss.map stW)) (by simp [wFr]; omega)
  rw [fTx_eq]
  exact told_evF _ _ _ _ _ (jma ss) at_0 at_1 (tt_c2 _ hl h) (jf4 _) (jd1 _) (jmy l1 l2) c
end
theorem ll_loop (W : T) : ∀ (ws : List Nm) (acc : Nm), acc.length + totW ws + ws.length ≤ 5000 → fLoop (gSlot 2) jek (nmT ws) [some W, some (sT acc), none] = .nx [some W, some (sT (acc ++ tl_ 32 ws)), none]
  | [], acc, _ => by rw [show acc ++ tl_ 32 [] = acc by simp [tl_]]; exact el_n
  | w :: ws, acc, h => by
    have h : acc.length + (w.length + totW ws) + (ws.length + 1) ≤ 5000 := by simpa [totW] using h
    have a1 : fAddR [sT acc, .str " "] = some (sT (acc ++ [32])) := jha (a := acc) (b := [32]) (by simp; omega)
    have a2 := jha (a := acc ++ [32]) (b := w) (by simp; omega)
    have r := ll_loop W ws (acc ++ [32] ++ w) (by simp; omega)
    rw [show acc ++ [32] ++ w ++ tl_ 32 ws = acc ++ tl_ 32 (w :: ws) by rw [jho]; simp] at r
    refine el_c (ρ1 := [some W, some (sT acc), some (sT w)]) rfl ?_ r
    (delta jek; (repeat' (first | wide_open with (1, nb_t, nb_f) | fail)))
theorem ll_ev (W X Y : T) (WS : List T) (i : Int) (b : Bool) (fW : frs WS = true) (hW : W = .lst false WS) (lp : fLoop (gSlot 2) jek WS [some W, some (.str ""), none] = .nx [some W, some X, none]) (ct : fCut X (some 1) none = some Y) (fY : Y.fr = true) (e : fEq [W, .lst true []] = some (.bl b)) (ib : fInt [.bl b] = some (.int i)) {Z : T} (ix : fIx [.lst true [Y, .str "."], .int i] = some Z) (fZ : Z.fr = true) (fX : X.fr = true) : jb3 [W] = .ok Z [] := by
  subst hW
  (unfold jb3; delta jh7; apply jcz (Nat.le_of_ble_eq_true rfl) <;> (repeat' (first | wide_open with (1, nb_t, nb_f, lp) | fail)))
theorem cutL {b : Nm} {i : Int} (h : 0 ≤ i) (hb : b.length ≤ 100000) : fCut (sT b) (some i) none = some (sT (b.drop i.toNat)) := by
  have l : (SX.S b).length ≤ sizeLine := by rw [SX.S_len, sizeLine_eq]; omega
  unfold sT
  rw [jbu, if_pos l, SX.slice_from h]
theorem cutH {b : Nm} {i : Int} (h : 0 ≤ i) (hb : b.length ≤ 100000) : fCut (sT b) none (some i) = some (sT (b.take i.toNat)) := by
  have l : (SX.S b).length ≤ sizeLine := by rw [SX.S_len, sizeLine_eq]; omega
  unfold sT
  rw [jbu, if_pos l, SX.slice_to h]
theorem cut1 (x : Nm) (h : x.length ≤ 100000) : fCut (sT x) (some 1) none = some (sT (x.drop 1)) := cutL (by decide) h
theorem jle {ws : List Nm} (hl : ws.length ≤ 20) (h : ∀ w ∈ ws, w.length ≤ 80) : jb3 [.lst false (nmT ws)] = .ok (sT (listW ws)) [] := by
  have t := jkn (l := ws) (k := 80) h
  have lp := ll_loop (.lst false (nmT ws)) ws [] (by simp; omega)
  have e := eq_nms false true ws []
  have tl := tl_len 32 ws
  by_cases z : ws = []
  · subst z
    exact ll_ev _ _ _ _ 1 true rfl rfl lp (cut1 _ (by simp [tl_])) rfl e rfl (Z := sT [46]) at_1 rfl rfl
  · rw [decide_eq_false z] at e
    refine ll_ev _ _ _ _ 0 false (jd1 ws) rfl lp (cut1 _ (by simp; omega)) rfl e rfl ?_ rfl rfl
    cases ws with
    | nil => exact absurd rfl z
    | cons w l =>
      rw [show listW (w :: l) = ([] ++ tl_ 32 (w :: l)).drop 1 by rw [jho]; simp [listW, lsW, jbi]]
      exact at_0
end Q
set_option pp.maxSteps 3000
set_option maxHeartbeats 0
namespace Q
open PySem PySem.Spec PyProof.Rows L2 PySem.W
theorem pt_c1 (P : T) {ps : List (Nm × Int)} (hl : ps.length ≤ 20) (h : ∀ p ∈ ps, PcOk p) : cLoop [2, 3] (gTree 2 (jbl (gSlot 2) (jbl (gSlot 3) gsNil))) bYes jcv (ps.map pcX) [] [some P, none, none, none, none, none] = .ok (.lst true (nmT (ps.map pcY)), [some P, none, none, none, none, none]) := by
  have m := jgb (own := [2, 3]) (g := gTree 2 (jbl (gSlot 2) (jbl (gSlot 3) gsNil))) (d := jcv) (f := fun t => match t with | .tup [.str n, .int k] => sT (pcY (n.cps.toList, k)) | _ => .non) (ρ := [some P, none, none, none, none, none]) (xs := ps.map pcX) rfl (by simp; omega) fun x hx => by
    obtain ⟨⟨n, k⟩, hp, rfl⟩ := List.mem_map.mp hx
    obtain ⟨h1, h2, h3⟩ : nm n ∧ 0 ≤ k ∧ k < 100 := h _ hp
    have l := nm_len h1
    have l2 := (jgz h2 (lt100 h3)).2
    have s := jmw h2 (lt100 h3)
    have a1 : fAddR [sT n, .str ":"] = some (sT (n ++ [58])) := jha (a := n) (b := [58]) (by simp; omega)
    have a2 := jha (a := n ++ [58]) (b := dec k) (by simp; omega)
    refine ⟨[some P, none, some (sT n), some (.int k), none, none], [some P, none, some (sT n), some (.int k), none, none], rfl, ?_, rfl⟩
    show _ = R.ok (sT (pcY (n, k)), _)
    rw [show pcY (n, k) = n ++ [58] ++ dec k by simp [pcY]]
    (delta jcv; (repeat' (first | wide_open with (1, nb_t, nb_f) | fail)))
  rw [m, nmT, List.map_map, List.map_map]
  rfl
theorem pt_ev2 (P X A B C D R : T) (i : Int) (c : Bool) (fX : X.fr = true) (i1 : fInt [.bl c] = some (.int i)) (j0 : fIx [.str "-+", .int i] = some A) (x0 : fIx [X, .int 0] = some B) (x1 : fIx [X, .int 1] = some C) (fC : C.fr = true) (c1 : fCat [A, B] = some D) {D2 : T} (c2 : fCat [D, .str ":"] = some D2) (c3 : fCat [D2, C] = some R) :
    jbs [some P, none, none, none, some X, some (.bl c)] = .ok (R, [some P, none, none, none, some X, some (.bl c)]) := by
  (delta jbs; (repeat' (first | wide_open with (1, nb_t, nb_f) | fail)))
theorem pt_c2 (P : T) {ss : List Stp6} (hl : ss.length ≤ 20) (h : ∀ s ∈ ss, TieOk s.1) : cLoop [4, 5] (gTree 2 (jbl (gSlot 4) (jbl (gSlot 5) gsNil))) bYes jbs (ss.map stT) [] [some P, none, none, none, none, none] = .ok (.lst true (nmT (ss.map stW)), [some P, none, none, none, none, none]) := by
  have m := jgb (own := [4, 5]) (g := gTree 2 (jbl (gSlot 4) (jbl (gSlot 5) gsNil))) (d := jbs) (f := fun t => match t with | .tup [.tup [.str a, .str b], .bl c] => sT (stW ((a.cps.toList, b.cps.toList), c)) | _ => .non) (ρ := [some P, none, none, none, none, none]) (xs := ss.map stT) rfl (by simp; omega) fun x hx => by
    obtain ⟨⟨⟨w, n⟩, c⟩, hs, rfl⟩ := List.mem_map.mp hx
    obtain ⟨h1, h2⟩ : w ∈ wds6 ∧ nm n := h _ hs
    have l := nm_len (jne w h1)
    have l2 := nm_len h2
    refine ⟨[some P, none, none, none, some (tieT (w, n)), some (.bl c)], [some P, none, none, none, some (tieT (w, n)), some (.bl c)], rfl, ?_, rfl⟩
    show _ = R.ok (sT (stW ((w, n), c)), _)
    cases c with
    | true =>
      rw [show stW ((w, n), true) = [43] ++ w ++ [58] ++ n by simp [stW, tieW]]
      exact pt_ev2 _ _ (sT [43]) _ _ _ _ 1 true rfl rfl rfl at_0 at_1 rfl (jgp (by simp; omega)) (jgp (b := [58]) (by simp; omega)) (jgp (by simp; omega))
    | false =>
      rw [show stW ((w, n), false) = [45] ++ w ++ [58] ++ n by simp [stW, tieW]]
      exact pt_ev2 _ _ (sT [45]) _ _ _ _ 0 false rfl rfl rfl at_0 at_1 rfl (jgp (by simp; omega)) (jgp (b := [58]) (by simp; omega)) (jgp (by simp; omega))
  rw [m, nmT, List.map_map, List.map_map]
  rfl
theorem ptx_evK (P S S1 S2 L R : T) (PS WS : List T) (a : Int) (fP : frs PS = true) (f0 : fIx [P, .int 0] = some (.str "known")) (f1 : fIx [P, .int 1] = some (.int a)) (f2 : fIx [P, .int 2] = some (.lst false PS)) (st : fStr [.int a] = some S) (a1 : fAddR [.str "known ", S] = some S1) (a2 : fAddR [S1, .str " "] = some S2) (fS : S2.fr = true)
    (cp : cLoop [2, 3] (gTree 2 (jbl (gSlot 2) (jbl (gSlot 3) gsNil))) bYes jcv PS [] [some P, none, none, none, none, none] = .ok (.lst true WS, [some P, none, none, none, none, none])) (zW : fzs WS = WS) (fW : frs WS = true) (li : jb3 [.lst false WS] = .ok L []) (ct : fCat [S2, L] = some R) : jag [P] = .ok R [] := by
  have e : fEq [.str "known", .str "known"] = some (.bl true) := jg9 _
  (unfold jag; delta jer; apply jcz (Nat.le_of_ble_eq_true rfl) <;> (repeat' (first | wide_open with (1, nb_t, nb_f, cp) | fail)))
theorem ptx_evF (P L R : T) (PS WS : List T) (fP : frs PS = true) (f0 : fIx [P, .int 0] = some (.str "free")) (f1 : fIx [P, .int 1] = some (.lst false PS))
    (cp : cLoop [4, 5] (gTree 2 (jbl (gSlot 4) (jbl (gSlot 5) gsNil))) bYes jbs PS [] [some P, none, none, none, none, none] = .ok (.lst true WS, [some P, none, none, none, none, none])) (zW : fzs WS = WS) (fW : frs WS = true) (li : jb3 [.lst false WS] = .ok L []) (ct : fCat [.str "free ", L] = some R) : jag [P] = .ok R [] := by
  have e : fEq [.str "free", .str "known"] = some (.bl false) := by wide_open with (71, at_0)
  (unfold jag; delta jer; apply jcz (Nat.le_of_ble_eq_true rfl) <;> (repeat' (first | wide_open with (1, nb_t, nb_f, cp) | fail)))
section
variable {a : Int} {ps : List (Nm × Int)} (h1 : -P60 < a) (h2 : a < P60) (hl : ps.length ≤ 20) (h : ∀ p ∈ ps, PcOk p)
include h1 h2 hl h
theorem ptx_K : jag [kT false a ps] = .ok (sT (kTx a ps)) [] := by
  obtain ⟨l1, l2⟩ := pcs_w hl h
  have la := jkp h1 h2
  have ll := jg0 l1 l2
  have a1 := jha (a := wKn ++ [32]) (b := decZ a) (by simp [wKn]; omega)
  have a2 := jha (a := wKn ++ [32] ++ decZ a) (b := [32]) (by simp [wKn]; omega)
  have c := jgp (a := wKn ++ [32] ++ decZ a ++ [32]) (b := listW (ps.map pcY)) (by simp [wKn]; omega)
  rw [kTx_eq]
  exact ptx_evK _ _ _ _ _ _ _ _ a (jko ps) at_0 at_1 at_2 (jow h1 h2) a1 a2 rfl (pt_c1 _ hl h) (jf4 _) (jd1 _) (jle l1 l2) c
end
section
variable {ss : List Stp6} (hl : ss.length ≤ 20) (h : ∀ s ∈ ss, TieOk s.1)
include hl h
theorem ptx_F : jag [fT6 false ss] = .ok (sT (fTx ss)) [] := by
  obtain ⟨l1, l2⟩ := sts_w hl h
  have ll := jg0 l1 l2
  have c := jgp (a := wFr ++ [32]) (b := listW (ss.map stW)) (by simp [wFr]; omega)
  rw [fTx_eq]
  exact ptx_evF _ _ _ _ _ (jma ss) at_0 at_1 (pt_c2 _ hl h) (jf4 _) (jd1 _) (jle l1 l2) c
end
theorem piece_ev (W A B : T) (i n1 n2 : Int) (fW : W.fr = true) (sp : jg2 [W, .str ":"] = some (.lst true [A, B])) (fA : A.fr = true) (fB : B.fr = true) (zA : A.fz = A) (zB : B.fz = B) (nm : jbr [A] = .ok (.bl true) []) (ln : fLen [B] = some (.int n2)) (le : n2 ≤ 2) (wh : jbx [B] = .ok (.int i) []) : jfa [W] = .ok (.tup [A, .int i]) [] := by
  have nd : jbw [.bl true] = .ok .non [] := by (unfold jbw; delta jht; apply jcz (Nat.le_of_ble_eq_true rfl) <;> (repeat' (first | wide_open with (1, nb_t, nb_f) | fail)))
  have l2 : fLen [.lst false [A, B]] = some (.int 2) := rfl
  have e2 : fEq [.int 2, .int 2] = some (.bl true) := rfl
  have fl : fLe [.int n2, .int 2] = some (.bl true) := by show some (T.bl (decide (n2 ≤ 2))) = _; rw [decide_eq_true le]
  have nn : jc4 [.int i, .non] = some (.bl true) := rfl
  (unfold jfa; delta jk7; apply jcz (Nat.le_of_ble_eq_true rfl) <;> (repeat' (first | wide_open with (1, nb_t, nb_f) | fail)))
theorem len_sT {x : Nm} (h : x.length ≤ 100000) {i : Int} (hi : i = x.length) : fLen [sT x] = some (.int i) := by
  show fLen [.str (SX.S x)] = _
  rw [jby, if_pos (by rw [SX.S_len, sizeLine_eq]; omega), SX.S_len, hi]
theorem dec_two {k : Int} (h0 : 0 ≤ k) (h : k < 100) : (dec k).length ≤ 2 := TL.numL_len (k := 2) (by decide) (by omega)
theorem piece_ok {p : Nm × Int} (h : PcOk p) : jfa [sT (pcY p)] = .ok (pcX p) [] := by
  obtain ⟨h1, h2, h3⟩ := h
  have l := nm_len h1
  have l2 := dec_two h2 h3
  have sp := jja (c := 58) (l := [p.1, dec p.2]) (by decide) (by simp) (fun q hq => by
    simp only [List.mem_cons, List.not_mem_nil, or_false] at hq
    rcases hq with rfl | rfl
    · exact jf5 h1 (.inl (by decide))
    · exact jh6 _ (.inr (by decide))) (by rw [jbi]; simp [tl_]; omega)
  rw [show TL.joinL [58] [p.1, dec p.2] = pcY p by rw [jbi]; simp [tl_, pcY]] at sp
  exact piece_ev _ _ _ p.2 0 _ rfl sp rfl rfl rfl rfl (nm_ok h1) (len_sT (by omega) rfl) (by omega) (jjb h2 (lt100 h3))
theorem step_ev (W S0 S1 A B C : T) (c : Bool) (fW : W.fr = true) (ct : fCut W (some 1) none = some S1) (sp : jg2 [S1, .str ":"] = some (.lst true [A, B])) (fA : A.fr = true) (fB : B.fr = true) (zA : A.fz = A) (zB : B.fz = B) (ch : fCut W none (some 1) = some S0) (i0 : fIn [S0, .tup [.str "+", .str "-"]] = some (.bl true))
    (iw : fIn [A, .con [.str "begin", .str "look", .str "now", .str "some"]] = some (.bl true)) (nm : jbr [B] = .ok (.bl true) []) (x0 : fIx [W, .int 0] = some C) (e : fEq [C, .str "+"] = some (.bl c)) : jf7 [W] = .ok (.tup [.tup [A, B], .bl c]) [] := by
  have nd : jbw [.bl true] = .ok .non [] := by (unfold jbw; delta jht; apply jcz (Nat.le_of_ble_eq_true rfl) <;> (repeat' (first | wide_open with (1, nb_t, nb_f) | fail)))
  have l2 : fLen [.lst false [A, B]] = some (.int 2) := rfl
  have e2 : fEq [.int 2, .int 2] = some (.bl true) := rfl
  (unfold jf7; delta jmr; apply jcz (Nat.le_of_ble_eq_true rfl) <;> (repeat' (first | wide_open with (1, nb_t, nb_f) | fail)))
theorem in_wds : ∀ w ∈ wds6, fIn [sT w, .con [.str "begin", .str "look", .str "now", .str "some"]] = some (.bl true) := by
  intro w hw
  simp only [wds6, List.mem_cons, List.not_mem_nil, or_false] at hw
  rcases hw with rfl | rfl | rfl | rfl <;> rfl
theorem ix0_sT {x : Nm} {c : Nat} {r : Nm} (h : x.length ≤ 100000) (e : x = c :: r) : fIx [sT x, .int 0] = some (sT [c]) := by
  show fIx [.str (SX.S x), .int 0] = _
  rw [jdm, if_pos (by rw [SX.S_len, sizeLine_eq]; omega), show (SX.S x).cps.toList = c :: r by rw [e], show atI (c :: r) 0 = some c from by simp [atI, ixN]]
  rfl
theorem step_ok {s : Stp6} (h : TieOk s.1) : jf7 [sT (stW s)] = .ok (stT s) [] := by
  obtain ⟨⟨w, n⟩, c⟩ := s
  obtain ⟨h1, h2⟩ : w ∈ wds6 ∧ nm n := h
  have lw := jne w h1
  have l := nm_len lw
  have l2 := nm_len h2
  have l3 : (stW ((w, n), c)).length ≤ 20 := by simp [stW, tieW]; omega
  have sp := jja (c := 58) (l := [w, n]) (by decide) (by simp) (fun q hq => by
    simp only [List.mem_cons, List.not_mem_nil, or_false] at hq
    rcases hq with rfl | rfl
    · exact jf5 lw (.inl (by decide))
    · exact jf5 h2 (.inl (by decide))) (by rw [jbi]; simp [tl_]; omega)
  rw [show TL.joinL [58] [w, n] = (stW ((w, n), c)).drop (1 : Int).toNat by rw [jbi]; simp [tl_, stW, tieW]] at sp
  have ct := cutL (b := stW ((w, n), c)) (i := 1) (by decide) (by omega)
  have ch := cutH (b := stW ((w, n), c)) (i := 1) (by decide) (by omega)
  have x0 : fIx [sT (stW ((w, n), c)), .int 0] = some (sT [if c then 43 else 45]) := ix0_sT (r := tieW (w, n)) (by omega) rfl
  cases c with
  | true => exact step_ev _ (sT [43]) _ (sT w) (sT n) (sT [43]) true rfl ct sp rfl rfl rfl rfl ch rfl (in_wds w h1) (nm_ok h2) x0 rfl
  | false => exact step_ev _ (sT [45]) _ (sT w) (sT n) (sT [45]) false rfl ct sp rfl rfl rfl rfl ch rfl (in_wds w h1) (nm_ok h2) x0 rfl
end Q
set_option pp.maxSteps 3000
set_option maxHeartbeats 0
namespace Q
open PySem PySem.Spec PyProof.Rows L2 PySem.W
theorem words_ev0 (W : T) (fW : W.fr = true) (n : fNe [W, .lst true []] = some (.bl true)) (e : fEq [W, .lst true [.str "."]] = some (.bl true)) : jaz [W] = .ok (.lst true []) [] := by
  have nd : jbw [.bl true] = .ok .non [] := by (unfold jbw; delta jht; apply jcz (Nat.le_of_ble_eq_true rfl) <;> (repeat' (first | wide_open with (1, nb_t, nb_f) | fail)))
  (unfold jaz; delta jf8; apply jcz (Nat.le_of_ble_eq_true rfl) <;> (repeat' (first | wide_open with (1, nb_t, nb_f) | fail)))
theorem words_ev1 (W : T) (fW : W.fr = true) (n : fNe [W, .lst true []] = some (.bl true)) (e : fEq [W, .lst true [.str "."]] = some (.bl false)) : jaz [W] = .ok W [] := by
  have nd : jbw [.bl true] = .ok .non [] := by (unfold jbw; delta jht; apply jcz (Nat.le_of_ble_eq_true rfl) <;> (repeat' (first | wide_open with (1, nb_t, nb_f) | fail)))
  (unfold jaz; delta jf8; apply jcz (Nat.le_of_ble_eq_true rfl) <;> (repeat' (first | wide_open with (1, nb_t, nb_f) | fail)))
theorem jlf {ws : List Nm} (h : [46] ∉ ws) : ∃ t, jaz [.lst false (nmT (lsW ws))] = .ok t [] ∧ t.fz = .lst false (nmT ws) := by
  have ne : lsW ws ≠ [] := by unfold lsW; split <;> simp_all
  have n := ne_nms6 false true (lsW ws) []
  rw [decide_eq_false ne] at n
  have e : fEq [.lst false (nmT (lsW ws)), .lst true [.str "."]] = some (.bl (decide (lsW ws = [[46]]))) := eq_nms false true (lsW ws) [[46]]
  by_cases z : ws = []
  · subst z
    exact ⟨_, words_ev0 _ rfl n e, rfl⟩
  · have e2 : lsW ws ≠ [[46]] := by
      unfold lsW
      rw [if_neg z]
      intro q
      exact h (by rw [q]; simp)
    rw [decide_eq_false e2] at e
    refine ⟨_, words_ev1 _ (jd1 _) n e, ?_⟩
    show T.lst false (fzs (nmT (lsW ws))) = _
    rw [jf4]
    simp [lsW, z]
theorem signed_ok {a : Int} (h1 : -P60 < a) (h2 : a < P60) : jdd [sT (decZ a)] = .ok (.int a) [] := by
  have l := jkp h1 h2
  have ch := cutH (b := decZ a) (i := 1) (by decide) (by omega)
  by_cases z : a < 0
  · have e : decZ a = 45 :: dec (-a) := if_pos z
    rw [e] at ch l
    have c1 := cutL (b := 45 :: dec (-a)) (i := 1) (by decide) (by omega)
    have r := joy (sT (45 :: dec (-a))) (sT [45]) (sT (dec (-a))) rfl rfl (-a) ch (jg8 _) rfl c1 (jjb (by omega) (by omega)) (by show some (T.bl (decide (-a > 0))) = _; rw [decide_eq_true (by omega)])
    rw [e, r]
    simp
  · have e : decZ a = dec a := if_neg z
    rw [e] at ch ⊢
    cases q : dec a with
    | nil => exact absurd q (TL.numL_ne _)
    | cons c r =>
      rw [q] at ch
      have hc := jor a c (by rw [q]; simp)
      have ne : fNe [sT [c], .str "-"] = some (.bl true) := by
        show some (T.bl (!(SX.S [c] == SX.S [45]))) = _
        rw [SX.S_beq_eq, decide_eq_false (by simp; omega)]
        rfl
      have w := jjb (i := a) (by omega) h2
      rw [q] at w
      exact jox _ (sT [c]) .non rfl a ch ne w
theorem pcs_ok (a b : Nm × Int) : (pcX a).ltOk (pcX b) = true := by
  simp [T.ltOk, T.eqOk, T.pl, pls, T.dep, deps, sT, T.alk, T.toD, toDs, PySem.W.alike, PySem.W.alikeAll, T.isNon]
def pcLt (a b : Nm × Int) : Bool := dataLt (pcX a).toD (pcX b).toD
theorem pc_lt (a b : Nm × Int) : fLtA [pcX a, pcX b] = some (.bl (pcLt a b)) := by
  show fOrd _ _ [pcX a, pcX b] = _
  unfold fOrd
  split
  · rename_i q; cases q
  · rename_i q; cases q; rw [if_pos (pcs_ok a b)]; rfl
  · rename_i q; exact absurd rfl (q _ _)
theorem nm_lt (a b : Nm) : fLtA [sT a, sT b] = some (.bl (dataLt (sT a).toD (sT b).toD)) := by
  have ok : (sT a).ltOk (sT b) = true := by
    simp [T.ltOk, T.eqOk, T.pl, pls, T.dep, deps, sT, T.alk, T.toD, toDs, PySem.W.alike, PySem.W.alikeAll, T.isNon]
  show fOrd _ _ [sT a, sT b] = _
  unfold fOrd
  split
  · rename_i q; cases q
  · rename_i q; cases q; rw [if_pos ok]; rfl
  · rename_i q; exact absurd rfl (q _ _)
def Ris6 : List T → Prop
  | x :: y :: l => fLtA [x, y] = some (.bl true) ∧ Ris6 (y :: l)
  | _ => True
theorem ris_mem : ∀ {xs : List T}, Ris6 xs → frs xs = true → ∀ x ∈ zipT xs (xs.drop 1), ∃ a b, x = .tup [a, b] ∧ fLtA [a, b] = some (.bl true) ∧ a.fr = true ∧ b.fr = true
  | [], _, _, x, hx => by simp [zipT] at hx
  | [_], _, _, x, hx => by simp [zipT] at hx
  | a :: b :: l, ⟨h1, h2⟩, f, x, hx => by
    have f' : (a.fr && (b.fr && frs l)) = true := f
    rw [Bool.and_eq_true, Bool.and_eq_true] at f'
    have hx : x ∈ T.tup [a, b] :: zipT (b :: l) ((b :: l).drop 1) := hx
    rcases List.mem_cons.mp hx with rfl | hx
    · exact ⟨a, b, rfl, h1, f'.1, f'.2.1⟩
    · exact ris_mem h2 (by show (b.fr && frs l) = true; rw [f'.2.1, f'.2.2]; rfl) x hx
theorem jo3 : ∀ (xs ys : List T), (zipT xs ys).length ≤ xs.length
  | [], _ => by simp [zipT]
  | _ :: _, [] => by simp [zipT]
  | _ :: xs, _ :: ys => by have := jo3 xs ys; simp [zipT]; omega
theorem rise_ev (L : T) (xs its : List T) (ys : List T) (bs : List T) (hL : L = .lst false xs) (fx : frs xs = true) (ct : fCut L (some 1) none = some (.lst true ys)) (zy : fzs ys = ys) (fy : frs ys = true) (hi : zipT xs ys = its)
    (cp : cLoop [1, 2] (gTree 2 (jbl (gSlot 1) (jbl (gSlot 2) gsNil))) bYes jfe its [] [some L, none, none] = .ok (.lst true bs, [some L, none, none])) (al : fAll [.lst true bs] = some (.bl true)) : jb6 [L] = .ok (.bl true) [] := by
  have fL : L.fr = true := by rw [hL]; simpa [T.fr] using fx
  have zp : iZip (dCons (dOf (rVar 0)) (dCons (dFz (jbm (rVar 0) (some (rC (.int 1))) none)) dNil)) [some L, none, none] = .ok (its, [some L, none, none]) := by
    have e : dCons (dOf (rVar 0)) (dCons (dFz (jbm (rVar 0) (some (rC (.int 1))) none)) dNil) [some L, none, none] = .ok ([L, .lst false ys], [some L, none, none]) := by
      (repeat' (first | wide_open with (1, nb_t, nb_f) | fail))
    unfold iZip
    rw [e, hL]
    show (if (frs xs && frs ys) = true then R.ok (zipT xs ys, _) else .bad) = _
    rw [fx, fy, if_pos (by rfl), hi]
  clear hi hL
  (unfold jb6; delta jjk; apply jcz (Nat.le_of_ble_eq_true rfl) <;> (repeat' (first | wide_open with (1, nb_t, nb_f, cp, zp) | fail)))
theorem rise_ok {xs : List T} (fx : frs xs = true) (hl : xs.length ≤ 1000) (h : Ris6 xs) : jb6 [.lst false xs] = .ok (.bl true) [] := by
  have m := jgb (own := [1, 2]) (g := gTree 2 (jbl (gSlot 1) (jbl (gSlot 2) gsNil))) (d := jfe) (f := fun _ => .bl true) (ρ := [some (.lst false xs), none, none]) (xs := zipT xs (xs.drop 1)) rfl (by have := jo3 xs (xs.drop 1); omega) fun x hx => by
    obtain ⟨a, b, rfl, e, f1, f2⟩ := ris_mem h fx x hx
    exact ⟨[some (.lst false xs), some a, some b], [some (.lst false xs), some a, some b], rfl, by (delta jfe; (repeat' (first | wide_open with (1, nb_t, nb_f) | fail))), rfl⟩
  have ct : fCut (.lst false xs) (some 1) none = some (.lst true (xs.drop 1)) := by
    rw [jb1, if_pos fx, joq (by decide)]; rfl
  have fy : frs (xs.drop 1) = true := by
    cases xs with
    | nil => rfl
    | cons a l =>
      have : (a.fr && frs l) = true := fx
      rw [Bool.and_eq_true] at this
      exact this.2
  have al : fAll [.lst true ((zipT xs (xs.drop 1)).map fun _ => T.bl true)] = some (.bl true) := by
    have b : je6 ((zipT xs (xs.drop 1)).map fun _ => T.bl true) = some ((zipT xs (xs.drop 1)).map fun _ => true) := by
      induction zipT xs (xs.drop 1) with
      | nil => rfl
      | cons a l ih => rw [List.map_cons, je6, ih]; rfl
    show (je6 ((zipT xs (xs.drop 1)).map fun _ => T.bl true)).map (fun bs => T.bl (bs.all id)) = _
    rw [b]
    simp
  exact rise_ev _ xs _ _ _ rfl fx ct (jg3 _ fy) fy rfl m al
end Q
set_option pp.maxSteps 3000
set_option maxHeartbeats 0
namespace Q
open PySem PySem.Spec PyProof.Rows L2 PySem.W
theorem lend_of {d : De} {ρ ρ1 : Env} {u : T} (h : d (fzE ρ) = .ok (u, ρ1)) (k : u.flat = true) : dLend d ρ = .ok (u, ρ) := by
  unfold dLend
  rw [h]
  show (if u.flat = true then R.ok (u, ρ) else .bad) = _
  rw [if_pos k]
theorem rk_ev (X W0 W1 W L : T) (WS PS WL : List T) (a n : Int) (fX : X.fr = true) (zX : X.fz = X) (iX : fIsi .str [X] = some (.bl true)) (sp : jg2 [X, .str " "] = some (.lst true WS)) (zW : fzs WS = WS) (fWS : frs WS = true) (i0 : fIx [.lst false WS, .int 0] = some (.str "known")) (ln : fLen [.lst false WS] = some (.int n)) (n2 : decide (n > 2) = true)
    (i1 : fIx [.lst false WS, .int 1] = some W1) (fW1 : W1.fr = true) (sg : jdd [W1] = .ok (.int a) []) (ct : fCut (.lst false WS) (some 2) none = some (.lst true WL)) (zL : fzs WL = WL) (fWL : frs WL = true) (wl : jaz [.lst false WL] = .ok L []) {VS : List T} (zV : L.fz = .lst false VS) (fV : frs VS = true)
    (cp : cLoop [5] (gSlot 5) bYes jfg VS [] [some X, some (.lst false WS), none, some (.int a), none, none, none, none] = .ok (.lst true PS, [some X, some (.lst false WS), none, some (.int a), none, none, none, none])) (fP : frs PS = true) (zP : fzs PS = PS) (ri : jb6 [.lst false PS] = .ok (.bl true) []) :
    jcu [X] = .ok (.tup [.str "known", .int a, .lst true PS]) [] := by
  have nd : jbw [.bl true] = .ok .non [] := by (unfold jbw; delta jht; apply jcz (Nat.le_of_ble_eq_true rfl) <;> (repeat' (first | wide_open with (1, nb_t, nb_f) | fail)))
  have e1 : fEq [.str "known", .str "free"] = some (.bl false) := by wide_open with (71, at_0)
  have e2 : fEq [.str "known", .str "known"] = some (.bl true) := jg9 _
  have gt : fGt [.int n, .int 2] = some (.bl true) := by show some (T.bl (decide (n > 2))) = _; rw [n2]
  have le : dLend (dCall jb6 [] [none] (dCons (dVar 4) dNil)) [some X, some (.lst false WS), none, some (.int a), some (.lst true PS), none, none, none] = .ok (.bl true, [some X, some (.lst false WS), none, some (.int a), some (.lst true PS), none, none, none]) := by
    refine lend_of (ρ1 := [some X, some (.lst false WS), none, some (.int a), some (.lst false PS), none, none, none]) ?_ rfl
    rw [show fzE [some X, some (.lst false WS), none, some (.int a), some (.lst true PS), none, none, none] = [some X, some (.lst false WS), none, some (.int a), some (.lst false PS), none, none, none] by simp [fzE, T.fz, fzs, zX, zW, zP]]
    (repeat' (first | wide_open with (1, nb_t, nb_f) | fail))
  (unfold jcu; delta jhw; apply jcz (Nat.le_of_ble_eq_true rfl) <;> (repeat' (first | wide_open with (1, nb_t, nb_f, cp, le) | fail)))
theorem rf_ev (X L : T) (WS PS WL TS : List T) (n : Int) (fX : X.fr = true) (zX : X.fz = X) (iX : fIsi .str [X] = some (.bl true)) (sp : jg2 [X, .str " "] = some (.lst true WS)) (zW : fzs WS = WS) (fWS : frs WS = true) (i0 : fIx [.lst false WS, .int 0] = some (.str "free"))
    (ct : fCut (.lst false WS) (some 1) none = some (.lst true WL)) (zL : fzs WL = WL) (fWL : frs WL = true) (wl : jaz [.lst false WL] = .ok L []) {VS : List T} (zV : L.fz = .lst false VS) (fV : frs VS = true)
    (cp : cLoop [5] (gSlot 5) bYes jff VS [] [some X, some (.lst false WS), none, none, none, none, none, none] = .ok (.lst true PS, [some X, some (.lst false WS), none, none, none, none, none, none])) (fP : frs PS = true) (zP : fzs PS = PS)
    (cp2 : cLoop [6, 7] (gTree 2 (jbl (gSlot 6) (jbl (gSlot 7) gsNil))) bYes jen PS [] [some X, some (.lst false WS), some (.lst false PS), none, none, none, none, none] = .ok (.lst true TS, [some X, some (.lst false WS), some (.lst false PS), none, none, none, none, none]))
    (ls : fLSM [.lst true TS] = some (.int n)) (lp : fLen [.lst true PS] = some (.int n)) : jcu [X] = .ok (.tup [.str "free", .lst true PS]) [] := by
  have nd : jbw [.bl true] = .ok .non [] := by (unfold jbw; delta jht; apply jcz (Nat.le_of_ble_eq_true rfl) <;> (repeat' (first | wide_open with (1, nb_t, nb_f) | fail)))
  have e1 : fEq [.str "free", .str "free"] = some (.bl true) := jg9 _
  have e2 : fEq [.int n, .int n] = some (.bl true) := by rw [jlb]; simp
  have le : dLend (vOp fLSM (dCons (dComp [6, 7] (iSeq (dVar 2)) (gTree 2 (jbl (gSlot 6) (jbl (gSlot 7) gsNil))) bYes jen) dNil)) [some X, some (.lst false WS), some (.lst true PS), none, none, none, none, none] = .ok (.int n, [some X, some (.lst false WS), some (.lst true PS), none, none, none, none, none]) := by
    refine lend_of (ρ1 := [some X, some (.lst false WS), some (.lst false PS), none, none, none, none, none]) ?_ rfl
    rw [show fzE [some X, some (.lst false WS), some (.lst true PS), none, none, none, none, none] = [some X, some (.lst false WS), some (.lst false PS), none, none, none, none, none] by simp [fzE, T.fz, fzs, zX, zW, zP]]
    (repeat' (first | wide_open with (1, nb_t, nb_f, cp2) | fail))
  (unfold jcu; delta jhw; apply jcz (Nat.le_of_ble_eq_true rfl) <;> (repeat' (first | wide_open with (1, nb_t, nb_f, cp, le) | fail)))
theorem jlg (o : Bool) (l : List Nm) : fLen [.lst o (nmT l)] = some (.int (l.length : Int)) := by rw [jb0]; simp [nmT]
theorem drop_nm (o : Bool) {k : Int} (h : 0 ≤ k) (l : List Nm) : fCut (.lst o (nmT l)) (some k) none = some (.lst true (nmT (l.drop k.toNat))) := by
  rw [jb1, if_pos (jd1 l), joq h, nmT, nmT, List.map_drop]
theorem pcs_46 {ps : List (Nm × Int)} : [46] ∉ ps.map pcY := fun z => by
  obtain ⟨p, _, e⟩ := List.mem_map.mp z
  have : 58 ∈ pcY p := by simp [pcY]
  rw [e] at this
  simp at this
theorem sts_46 {ss : List Stp6} : [46] ∉ ss.map stW := fun z => by
  obtain ⟨p, _, e⟩ := List.mem_map.mp z
  have : 58 ∈ stW p := by simp [stW, tieW]
  rw [e] at this
  simp at this
theorem ls_free {c : Nat} (hc : c ≠ 46) {ws : List Nm} (h : ∀ w ∈ ws, c ∉ w) : ∀ w ∈ lsW ws, c ∉ w := fun w hw => by
  unfold lsW at hw
  split at hw
  · simp at hw; rw [hw]; simpa using hc
  · exact h w hw
theorem jnf {α : Type} (F G : α → T) {own : List Nat} {g : T → Env → Option Env} {d : De} {ρ : Env} (hw : wipeE ρ own = ρ) (xs : List α) (hl : xs.length ≤ 1000) (st : ∀ x ∈ xs, ∃ ρ1 ρ2, g (F x) ρ = some ρ1 ∧ d ρ1 = .ok (G x, ρ2) ∧ wipeE ρ2 own = ρ) :
    cLoop own g bYes d (xs.map F) [] ρ = .ok (.lst true (xs.map G), ρ) := by
  have go : ∀ (qs : List α) (acc : List T), acc.length + qs.length ≤ 1000 → (∀ x ∈ qs, ∃ ρ1 ρ2, g (F x) ρ = some ρ1 ∧ d ρ1 = .ok (G x, ρ2) ∧ wipeE ρ2 own = ρ) → cLoop own g bYes d (qs.map F) acc ρ = .ok (.lst true (acc ++ qs.map G), ρ) := fun qs => by
    induction qs with
    | nil => intro acc _ _; simp [cLoop]
    | cons x qs ih =>
      intro acc hl h
      obtain ⟨ρ1, ρ2, h1, h2, h3⟩ := h x List.mem_cons_self
      have r := ih (acc ++ [G x]) (by simp at hl ⊢; omega) fun q hq => h q (List.mem_cons_of_mem _ hq)
      rw [List.map_cons, cLoop, hw, h1]
      show (match d ρ1 with | .ok (u, ρ3) => if acc.length < sizeLine then cLoop own g bYes d (qs.map F) (acc ++ [u]) (wipeE ρ3 own) else .bad | _ => .bad) = _
      rw [h2]
      show (if acc.length < sizeLine then cLoop own g bYes d (qs.map F) (acc ++ [G x]) (wipeE ρ2 own) else .bad) = _
      rw [if_pos (by rw [sizeLine_eq]; simp at hl; omega), h3, r]
      simp
  have := go xs [] (by simpa using hl) st
  simpa using this
theorem rt_c3 (X WS : T) (a : Int) {ps : List (Nm × Int)} (hl : ps.length ≤ 20) (h : ∀ p ∈ ps, PcOk p) : cLoop [5] (gSlot 5) bYes jfg (nmT (ps.map pcY)) [] [some X, some WS, none, some (.int a), none, none, none, none] = .ok (.lst true (ps.map pcX), [some X, some WS, none, some (.int a), none, none, none, none]) := by
  rw [nmT, List.map_map]
  refine jnf (fun p => sT (pcY p)) pcX rfl ps (by omega) fun p hp => ?_
  have e := piece_ok (h p hp)
  refine ⟨[some X, some WS, none, some (.int a), none, some (sT (pcY p)), none, none], [some X, some WS, none, some (.int a), none, some (sT (pcY p)), none, none], rfl, ?_, rfl⟩
  have fx : (sT (pcY p)).fr = true := rfl
  generalize sT (pcY p) = Y at e fx ⊢
  generalize pcX p = Z at e ⊢
  (delta jfg; (repeat' (first | wide_open with (1, nb_t, nb_f) | fail)))
theorem rt_c1 (X WS : T) {ss : List Stp6} (hl : ss.length ≤ 20) (h : ∀ s ∈ ss, TieOk s.1) : cLoop [5] (gSlot 5) bYes jff (nmT (ss.map stW)) [] [some X, some WS, none, none, none, none, none, none] = .ok (.lst true (ss.map stT), [some X, some WS, none, none, none, none, none, none]) := by
  rw [nmT, List.map_map]
  refine jnf (fun p => sT (stW p)) stT rfl ss (by omega) fun p hp => ?_
  have e := step_ok (h p hp)
  refine ⟨[some X, some WS, none, none, none, some (sT (stW p)), none, none], [some X, some WS, none, none, none, some (sT (stW p)), none, none], rfl, ?_, rfl⟩
  have fx : (sT (stW p)).fr = true := rfl
  generalize sT (stW p) = Y at e fx ⊢
  generalize stT p = Z at e ⊢
  (delta jff; (repeat' (first | wide_open with (1, nb_t, nb_f) | fail)))
theorem rt_c2 (X WS L : T) {ss : List Stp6} (hl : ss.length ≤ 20) : cLoop [6, 7] (gTree 2 (jbl (gSlot 6) (jbl (gSlot 7) gsNil))) bYes jen (ss.map stT) [] [some X, some WS, some L, none, none, none, none, none] = .ok (.lst true (ss.map fun s => tieT s.1), [some X, some WS, some L, none, none, none, none, none]) := by
  refine jnf stT (fun s => tieT s.1) rfl ss (by omega) fun p hp => ?_
  refine ⟨[some X, some WS, some L, none, none, none, some (tieT p.1), some (.bl p.2)], [some X, some WS, some L, none, none, none, some (tieT p.1), some (.bl p.2)], rfl, ?_, rfl⟩
  have fx : (tieT p.1).fr = true := rfl
  generalize tieT p.1 = Y at fx ⊢
  (delta jen; (repeat' (first | wide_open with (1, nb_t, nb_f) | fail)))
theorem lsm_ties {ss : List Stp6} (hl : ss.length ≤ 20) (nd : (ss.map (·.1)).Nodup) : fLSM [.lst true (ss.map fun s => tieT s.1)] = some (.int (ss.length : Int)) := by
  have ks : keyss (ss.map fun s => tieT s.1) = some (ss.map fun s => [.inr (SX.S s.1.1), .inr (SX.S s.1.2)]) := by
    clear nd hl
    induction ss with
    | nil => rfl
    | cons s ss ih =>
      rw [List.map_cons, List.map_cons, keyss, ih]
      rfl
  have nd2 : (ss.map fun s => ([.inr (SX.S s.1.1), .inr (SX.S s.1.2)] : List L2.Key)).Nodup := by
    have e : (ss.map fun s => ([.inr (SX.S s.1.1), .inr (SX.S s.1.2)] : List L2.Key)) = (ss.map (·.1)).map fun t => [.inr (SX.S t.1), .inr (SX.S t.2)] := by rw [List.map_map]; rfl
    rw [e]
    refine List.pairwise_map.mpr (nd.imp fun {a b} ne q => ne ?_)
    simp only [List.cons.injEq, Sum.inr.injEq, and_true] at q
    exact Prod.ext (sT_inj (congrArg T.str q.1)) (sT_inj (congrArg T.str q.2))
  have dd : ∀ l : List (List L2.Key), l.Nodup → dedK l = l := fun l h => by
    induction l with
    | nil => rfl
    | cons x l ih =>
      have := List.nodup_cons.mp h
      rw [dedK, if_neg (fun z => this.1 (any_in.mp z)), ih this.2]
  show (match keyss (ss.map fun s => tieT s.1) with | some ks => if ks.length < 64 then some (T.int ((dedK ks).length : Int)) else none | none => none) = _
  rw [ks]
  show (if (ss.map fun s => ([.inr (SX.S s.1.1), .inr (SX.S s.1.2)] : List L2.Key)).length < 64 then some (T.int _) else none) = _
  rw [if_pos (by simp; omega), dd _ nd2]
  simp
theorem free32 {a : Int} {ps : List (Nm × Int)} (h : ∀ p ∈ ps, PcOk p) : ∀ w ∈ kWs a ps, 32 ∉ w := fun w hw => by
  simp only [kWs, List.mem_cons] at hw
  rcases hw with rfl | rfl | hw
  · decide
  · unfold decZ
    split
    · simpa using jh6 (-a) (.inl (by decide))
    · exact jh6 a (.inl (by decide))
  · refine ls_free (by decide) (fun w hw => ?_) w hw
    obtain ⟨p, hp, rfl⟩ := List.mem_map.mp hw
    have := h p hp
    simp only [pcY, List.mem_append, List.mem_cons, not_or]
    exact ⟨jf5 this.1 (.inl (by decide)), by decide, jh6 _ (.inl (by decide))⟩
theorem free32F {ss : List Stp6} (h : ∀ s ∈ ss, TieOk s.1) : ∀ w ∈ fWs ss, 32 ∉ w := fun w hw => by
  simp only [fWs, List.mem_cons] at hw
  rcases hw with rfl | hw
  · decide
  · refine ls_free (by decide) (fun w hw => ?_) w hw
    obtain ⟨⟨t, c⟩, hp, rfl⟩ := List.mem_map.mp hw
    have : TieOk t := h _ hp
    have n1 := jf5 (jne _ this.1) (c := 32) (.inl (by decide))
    have n2 := jf5 this.2 (c := 32) (.inl (by decide))
    simp only [stW, tieW, List.mem_append, List.mem_cons, not_or]
    exact ⟨by cases c <;> simp, n1, by decide, n2⟩
theorem read_K {a : Int} {ps : List (Nm × Int)} (h1 : -P60 < a) (h2 : a < P60) (hl : ps.length ≤ 20) (h : ∀ p ∈ ps, PcOk p) (ri : Ris6 (ps.map pcX)) : jcu [sT (kTx a ps)] = .ok (kT true a ps) [] := by
  obtain ⟨l1, l2⟩ := pcs_w hl h
  have ll := jg0 l1 l2
  have lz := jkp h1 h2
  have lt : (kTx a ps).length ≤ 2000 := by rw [kTx_eq]; simp [wKn]; omega
  have sp := jja (c := 32) (l := kWs a ps) (by decide) (by simp [kWs]) (free32 h) (by show (kTx a ps).length ≤ _; omega)
  obtain ⟨L, wl, zL⟩ := jlf (ws := ps.map pcY) pcs_46
  have ls0 : (lsW (ps.map pcY)).length ≥ 1 := by unfold lsW; split <;> simp_all; exact List.length_pos_iff.mpr (by assumption)
  have ct := drop_nm false (k := 2) (by decide) (kWs a ps)
  rw [show (kWs a ps).drop (2 : Int).toNat = lsW (ps.map pcY) from rfl] at ct
  exact rk_ev _ (sT wKn) (sT (decZ a)) .non L _ _ _ a _ rfl rfl rfl sp (jf4 _) (jd1 _) at_0 (jlg _ _) (decide_eq_true (by simp [kWs]; omega)) at_1 rfl (signed_ok h1 h2) ct (jf4 _) (jd1 _) wl zL (jd1 _) (rt_c3 _ _ a hl h) (jko ps) (pcs_fz ps) (rise_ok (jko ps) (by simp; omega) ri)
theorem read_F {ss : List Stp6} (hl : ss.length ≤ 20) (h : ∀ s ∈ ss, TieOk s.1) (nd : (ss.map (·.1)).Nodup) : jcu [sT (fTx ss)] = .ok (fT6 true ss) [] := by
  obtain ⟨l1, l2⟩ := sts_w hl h
  have ll := jg0 l1 l2
  have lt : (fTx ss).length ≤ 2000 := by rw [fTx_eq]; simp [wFr]; omega
  have sp := jja (c := 32) (l := fWs ss) (by decide) (by simp [fWs]) (free32F h) (by show (fTx ss).length ≤ _; omega)
  obtain ⟨L, wl, zL⟩ := jlf (ws := ss.map stW) sts_46
  have ct := drop_nm false (k := 1) (by decide) (fWs ss)
  rw [show (fWs ss).drop (1 : Int).toNat = lsW (ss.map stW) from rfl] at ct
  exact rf_ev _ L _ _ _ _ _ rfl rfl rfl sp (jf4 _) (jd1 _) at_0 ct (jf4 _) (jd1 _) wl zL (jd1 _) (rt_c1 _ _ hl h) (jma ss) (sts_fz ss) (rt_c2 _ _ _ hl) (lsm_ties hl nd) (by rw [jb0]; simp)
end Q
set_option pp.maxSteps 3000
set_option maxHeartbeats 0
namespace Q
open PySem PySem.Spec PyProof.Rows L2 PySem.W
def bnd6 : Nat → Int
  | 0 => 1000
  | k + 1 => bnd6 k * 1000000
theorem o_p60 : fPow [.int 10, .int 60] = some (.int P60) := by
  first | rfl | simp +decide [fPow, fDiv, P60]
theorem o_p6 : fPow [.int 10, .int 6] = some (.int 1000000) := by
  first | rfl | simp +decide [fPow, fDiv]
theorem am_step (P0 P1 w K : T) (f r : Int) (f0 : 0 ≤ f) (a1 : jab [P0, .int 1000000] = .ok (.int r) [P1]) : jdr [some P0, some w, some (.int f), some K] = .nx [some P1, some w, some (.int (f * 1000000 + r)), none] := by
  have p := o_p6
  have m : fMulR [.int f, .int 1000000] = some (.int (f * 1000000)) := jau (by omega) (by omega)
  have ct : fCat [.int (f * 1000000), .int r] = some (.int (f * 1000000 + r)) := rfl
  (delta jdr; (repeat' (first | wide_open with (1, nb_t, nb_f) | fail)))
theorem am_ev (P0 P1 P2 P3 P4 : T) (w f0 f g r a s : Int) (N : Int) (a1 : jab [P0, .int 4] = .ok (.int w) [P1]) (a2 : jab [P1, .int 1000] = .ok (.int f0) [P2]) (ix : fIx [.lst true [.int 0, .int 0, .int 3, .int 9], .int w] = some (.int N)) (n62 : small62 N = true)
    (lp : fLoop (gSlot 3) jdr (intsT 0 N.toNat) [some P2, some (.int w), some (.int f0), none] = .nx [some P3, some (.int w), some (.int f), none]) (ix2 : fIx [.lst true [.int f, .int 0, .int f, .int (P60 - 1 - f)], .int w] = some (.int g)) (a3 : jab [P3, .int 2] = .ok (.int r) [P4]) (hs : s = 1 - 2 * r) (r0 : 0 ≤ r) (r2 : r < 2) (ha : a = g * s) : jc5 [P0] = .ok (.int a) [P4] := by
  have p := o_p60
  have s1 : fSub [.int P60, .int 1] = some (.int (P60 - 1)) := rfl
  have s2 : fSub [.int (P60 - 1), .int f] = some (.int (P60 - 1 - f)) := rfl
  have m1 : fMulR [.int 2, .int r] = some (.int (2 * r)) := jb5 (by omega) (by omega)
  have s3 : fSub [.int 1, .int (2 * r)] = some (.int s) := by rw [hs]; rfl
  have m2 : fMulR [.int g, .int s] = some (.int a) := by rw [ha]; exact jau (by omega) (by omega)
  clear hs ha
  generalize P60 = PP at *
  (unfold jc5; delta jh8; apply jcz (Nat.le_of_ble_eq_true rfl) <;> (repeat' (first | wide_open with (1, nb_t, nb_f, lp) | fail)))
theorem amount_ok (p : Pen) {n : Int} (h : pT n p) (hn : n + 30 < 67108864) : ∃ (a : Int) (p' : Pen), jc5 [p.t] = .ok (.int a) [p'.t] ∧ -P60 < a ∧ a < P60 ∧ pT (n + 15) p' := by
  obtain ⟨w, p1, a1, a2, a3, a4⟩ := jfb p h (by omega) 4 (by omega) (by omega)
  obtain ⟨f0, p2, b1, b2, b3, b4⟩ := jfb p1 a4 (by omega) 1000 (by omega) (by omega)
  obtain ⟨N, hN, ix⟩ : ∃ N : Nat, N ≤ 9 ∧ fIx [.lst true [.int 0, .int 0, .int 3, .int 9], .int w] = some (.int (N : Int)) := by
    have : w = 0 ∨ w = 1 ∨ w = 2 ∨ w = 3 := by omega
    rcases this with rfl | rfl | rfl | rfl
    · exact ⟨0, by omega, at_0⟩
    · exact ⟨0, by omega, at_1⟩
    · exact ⟨3, by omega, at_2⟩
    · exact ⟨9, by omega, at_3⟩
  obtain ⟨NI, hNI⟩ : ∃ NI : Int, NI = N := ⟨_, rfl⟩
  rw [← hNI] at ix
  have bp : ∀ k, 0 < bnd6 k := fun k => by
    induction k with
    | zero => decide
    | succ k ih => show 0 < bnd6 k * 1000000; omega
  have mono : ∀ k j, bnd6 k ≤ bnd6 (k + j) := fun k j => by
    induction j with
    | zero => exact Int.le_refl _
    | succ j ih => have := bp (k + j); show bnd6 k ≤ bnd6 (k + j) * 1000000; omega
  obtain ⟨ρ, l1, q, f, l2, l3, l4, l5⟩ := jfk (g := gSlot 3) (b := jdr) (ts := intsT 0 NI.toNat) (n := 0) (ρ := [some p2.t, some (.int w), some (.int f0), none])
    (I := fun i ρ => ∃ (q : Pen) (f : Int), ρ = [some q.t, some (.int w), some (.int f), none] ∧ 0 ≤ f ∧ f < bnd6 i ∧ (i ≤ 9 → pT (n + 2 + i) q)) (fun i ρ t _ ex ⟨q, f, e, h1, h2, h3⟩ => by
      subst e
      obtain ⟨hi, J, hJ, rfl⟩ := jgc (by simpa using ex)
      obtain ⟨r, q2, c1, c2, c3, c4⟩ := jfb q (h3 (by omega)) (by omega) 1000000 (by omega) (by omega)
      exact ⟨_, _, rfl, .inl (am_step _ _ _ _ f r h1 c1), q2, f * 1000000 + r, rfl, by omega, by show _ < bnd6 i * 1000000; omega, fun _ => ⟨c4.1, by have := c4.2; omega⟩⟩) ⟨p2, f0, rfl, b2, b3, fun _ => ⟨b4.1, by have := b4.2; simp only [Int.natCast_zero] at *; omega⟩⟩
  subst l2
  have len : (intsT 0 NI.toNat).length = N := by simp [intsT, hNI]
  rw [len, Nat.zero_add] at l4 l5
  have fb : f < P60 := by
    have := mono N (9 - N)
    rw [show N + (9 - N) = 9 by omega] at this
    have : bnd6 9 < P60 := by decide
    omega
  have pp := P60_pos
  obtain ⟨g, ix2, g0, g1⟩ : ∃ g : Int, fIx [.lst true [.int f, .int 0, .int f, .int (P60 - 1 - f)], .int w] = some (.int g) ∧ 0 ≤ g ∧ g < P60 := by
    have : w = 0 ∨ w = 1 ∨ w = 2 ∨ w = 3 := by omega
    rcases this with rfl | rfl | rfl | rfl
    · exact ⟨f, at_0, l3, fb⟩
    · exact ⟨0, at_1, by omega, by omega⟩
    · exact ⟨f, at_2, l3, fb⟩
    · exact ⟨P60 - 1 - f, at_3, by omega, by omega⟩
  obtain ⟨r, p4, c1, c2, c3, c4⟩ := jfb q (l5 hN) (by omega) 2 (by omega) (by omega)
  have : r = 0 ∨ r = 1 := by omega
  refine ⟨g * (1 - 2 * r), p4, am_ev _ _ _ _ _ w f0 f g r _ _ NI a1 b1 ix (jaf (by omega) (by omega)) l1 ix2 c1 rfl c2 c3 rfl, ?_, ?_, c4.1, by have := c4.2; omega⟩
  · rcases this with rfl | rfl <;> omega
  · rcases this with rfl | rfl <;> omega
abbrev kyP (p : Nm × Int) : List L2.Key := [.inr (SX.S p.1), .inl p.2]
theorem kyP_inj {p q : Nm × Int} (h : kyP p = kyP q) : p = q := by
  simp only [List.cons.injEq, Sum.inr.injEq, Sum.inl.injEq, and_true] at h
  exact Prod.ext (sT_inj (congrArg T.str h.1)) h.2
theorem keyss_pc (ps : List (Nm × Int)) : keyss (ps.map pcX) = some (ps.map kyP) := by
  induction ps with
  | nil => rfl
  | cons p ps ih => rw [List.map_cons, List.map_cons, keyss, ih]; rfl
def dedP : List (Nm × Int) → List (Nm × Int)
  | [] => []
  | x :: xs => if x ∈ xs then dedP xs else x :: dedP xs
theorem jo4 : ∀ ps : List (Nm × Int), dedK (ps.map kyP) = (dedP ps).map kyP
  | [] => rfl
  | x :: xs => by
    rw [List.map_cons, dedK, dedP, jo4 xs]
    by_cases h : x ∈ xs
    · rw [if_pos h, if_pos (any_in.mpr (List.mem_map_of_mem h))]
    · rw [if_neg h, if_neg fun z => h (by obtain ⟨y, hy, e⟩ := List.mem_map.mp (any_in.mp z); rw [← kyP_inj e]; exact hy)]
      rfl
theorem jo5 {ps : List (Nm × Int)} {p : Nm × Int} : p ∈ dedP ps → p ∈ ps := by
  induction ps with
  | nil => exact id
  | cons x xs ih =>
    intro h
    rw [dedP] at h
    split at h
    · exact List.mem_cons_of_mem _ (ih h)
    · rcases List.mem_cons.mp h with rfl | h
      · exact List.mem_cons_self
      · exact List.mem_cons_of_mem _ (ih h)
theorem jo6 : ∀ ps : List (Nm × Int), (dedP ps).Nodup
  | [] => List.nodup_nil
  | x :: xs => by
    rw [dedP]
    split
    · exact jo6 xs
    · rename_i h
      exact List.nodup_cons.mpr ⟨fun z => h (jo5 z), jo6 xs⟩
theorem jo7 : ∀ ps : List (Nm × Int), (dedP ps).length ≤ ps.length
  | [] => Nat.le_refl _
  | x :: xs => by
    rw [dedP]
    have := jo7 xs
    split <;> simp <;> omega
theorem srt_pc (ps : List (Nm × Int)) (hl : ps.length ≤ 100) : srtOk (ps.map pcX) = true := by
  have h1 : (ps.map pcX).all T.eqOk = true := by
    rw [List.all_eq_true]
    intro x hx
    obtain ⟨p, _, rfl⟩ := List.mem_map.mp hx
    simp [T.eqOk, T.pl, pls, T.dep, deps, sT]
  have h2 : ((ps.map pcX).all fun a => (ps.map pcX).all fun b => a.alk b) = true := by
    rw [List.all_eq_true]
    intro x hx
    rw [List.all_eq_true]
    intro y hy
    obtain ⟨p, _, rfl⟩ := List.mem_map.mp hx
    obtain ⟨q, _, rfl⟩ := List.mem_map.mp hy
    simp [T.alk, T.toD, toDs, sT, PySem.W.alike, PySem.W.alikeAll]
  unfold srtOk
  rw [jko, h1, h2, decide_eq_true (by simp; omega)]
  simp only [Bool.true_and, Bool.or_eq_true, List.all_eq_true]
  left
  intro x hx
  obtain ⟨p, _, rfl⟩ := List.mem_map.mp hx
  rfl
def leP (a b : Nm × Int) : Bool := T.le (pcX a) (pcX b)
theorem sort_pc {ps : List (Nm × Int)} (hl : ps.length ≤ 20) : fSSM [.lst false (ps.map pcX)] = some (.lst true (((dedP ps).mergeSort leP).map pcX)) := by
  show (match keyss (ps.map pcX) with | some ks => if (decide (ks.length < 64) && srtOk (ps.map pcX)) = true then some (T.lst true (((dedK ks).map tupK).mergeSort T.le)) else none | none => none) = _
  rw [keyss_pc]
  show (if (decide ((ps.map kyP).length < 64) && srtOk (ps.map pcX)) = true then some (T.lst true (((dedK (ps.map kyP)).map tupK).mergeSort T.le)) else none) = _
  rw [decide_eq_true (by simp; omega), srt_pc ps (by omega), if_pos (by rfl), jo4, List.map_map, show tupK ∘ kyP = pcX from rfl]
  rw [List.map_mergeSort (r := leP) (s := T.le) (f := pcX) (fun a _ b _ => rfl)]
theorem jo8 : ∀ {l : List (Nm × Int)}, l.Pairwise (fun a b => leP a b = true) → l.Nodup → Ris6 (l.map pcX)
  | [], _, _ => trivial
  | [_], _, _ => trivial
  | a :: b :: l, pw, nd => by
    have pw1 := List.pairwise_cons.mp pw
    have nd1 := List.nodup_cons.mp nd
    refine ⟨?_, jo8 pw1.2 nd1.2⟩
    rw [pc_lt]
    have h : leP a b = true := pw1.1 b List.mem_cons_self
    cases q : pcLt a b with
    | true => rfl
    | false =>
      have h2 : T.le (pcX b) (pcX a) = true := by show (!dataLt (pcX a).toD (pcX b).toD) = true; rw [show dataLt (pcX a).toD (pcX b).toD = false from q]; rfl
      have e := leq_an (k := kyP a) (l := kyP b) h h2
      exact absurd (by rw [kyP_inj e]; exact List.mem_cons_self) nd1.1
theorem sorted_pc {ps : List (Nm × Int)} (hl : ps.length ≤ 20) (h : ∀ p ∈ ps, PcOk p) : ∃ qs : List (Nm × Int), fSSM [.lst false (ps.map pcX)] = some (.lst true (qs.map pcX)) ∧ qs.length ≤ 20 ∧ (∀ p ∈ qs, PcOk p) ∧ Ris6 (qs.map pcX) := by
  refine ⟨_, sort_pc hl, ?_, fun p hp => h p (jo5 ((List.mergeSort_perm _ _).mem_iff.mp hp)), jo8 ?_ ((List.mergeSort_perm _ _).nodup_iff.mpr (jo6 ps))⟩
  · rw [List.length_mergeSort]; exact Nat.le_trans (jo7 ps) hl
  · exact List.pairwise_mergeSort (le := leP) (fun a b c h1 h2 => leq_tr (pcX a) (pcX b) (pcX c) h1 h2) (fun a b => leq_to (pcX a) (pcX b)) _
end Q
set_option pp.maxSteps 3000
set_option maxHeartbeats 0
namespace Q
open PySem PySem.Spec PyProof.Rows L2 PySem.W
theorem tie_eqv (u t : Nm × Nm) : (tieT u).eqv (tieT t) = decide (u = t) := by
  show ((sT u.1).eqv (sT t.1) && ((sT u.2).eqv (sT t.2) && true)) = _
  have e : ∀ a b : Nm, (sT a).eqv (sT b) = decide (a = b) := fun a b => SX.S_beq_eq
  rw [e, e, Bool.and_true]
  by_cases h1 : u.1 = t.1 <;> by_cases h2 : u.2 = t.2 <;> simp [Prod.ext_iff, h1, h2]
theorem in_ties (o : Bool) (t : Nm × Nm) (ts : List (Nm × Nm)) : jj2 [tieT t, .lst o (ts.map tieT)] = some (.bl (!decide (t ∈ ts))) := by
  have p : ∀ l : List (Nm × Nm), pls (l.map tieT) = true := fun l => by
    induction l with
    | nil => rfl
    | cons x l ih => rw [List.map_cons]; simp [pls, T.pl, ih]
  have d : ∀ l : List (Nm × Nm), deps (l.map tieT) ≤ 1 := fun l => by
    induction l with
    | nil => exact Nat.zero_le _
    | cons x l ih => rw [List.map_cons]; simp [deps, T.dep]; omega
  have e1 : (tieT t).eqOk = true := by simp [T.eqOk, T.pl, pls, T.dep, deps]
  have e2 : (T.lst o (ts.map tieT)).eqOk = true := by
    have := d ts
    simp [T.eqOk, T.pl, p ts, T.dep]
    omega
  have any : ((ts.map tieT).any fun y => y.eqv (tieT t)) = decide (t ∈ ts) := by
    clear e2
    induction ts with
    | nil => rfl
    | cons u ts ih =>
      rw [List.map_cons, List.any_cons, ih, tie_eqv]
      by_cases h1 : u = t
      · subst h1; simp
      · have : ¬ t = u := fun z => h1 z.symm
        simp [h1, this]
  show fNot fIn _ = _
  unfold fNot
  rw [jb4, e1, e2, if_pos (by rfl), any]
theorem blend_of {d : Db} {ρ ρ1 : Env} {c : Bool} (h : d (fzE ρ) = .ok (c, ρ1)) : bLend d ρ = .ok (c, ρ) := by
  unfold bLend
  rw [h]
abbrev WD6 : T := .lst false [.str "begin", .str "look", .str "now", .str "some"]
theorem fr_test (PZ s1 NM s3 TT : T) (b : Bool) (ts : List (Nm × Nm)) (ss : List Stp6) (hl : ss.length ≤ 20) (J : T) (fT : TT.fr = true) (ni : jj2 [TT, .lst true (ss.map fun s => tieT s.1)] = some (.bl b)) :
    bTest (vOp2 (fro jj2) (dOf (rVar 9)) (dComp [10] (iSeq (dVar 7)) (gSlot 10) bYes jbt)) [some PZ, some s1, some NM, some s3, some WD6, none, none, some (.lst false (ss.map stT)), some J, some TT, none] = .ok (b, [some PZ, some s1, some NM, some s3, some WD6, none, none, some (.lst false (ss.map stT)), some J, some TT, none]) := by
  have cp : cLoop [10] (gSlot 10) bYes jbt (ss.map stT) [] [some PZ, some s1, some NM, some s3, some WD6, none, none, some (.lst false (ss.map stT)), some J, some TT, none] = .ok (.lst true (ss.map fun s => tieT s.1), [some PZ, some s1, some NM, some s3, some WD6, none, none, some (.lst false (ss.map stT)), some J, some TT, none]) := by
    refine jnf stT (fun s => tieT s.1) rfl ss (by omega) fun p hp => ?_
    refine ⟨[some PZ, some s1, some NM, some s3, some WD6, none, none, some (.lst false (ss.map stT)), some J, some TT, some (stT p)], [some PZ, some s1, some NM, some s3, some WD6, none, none, some (.lst false (ss.map stT)), some J, some TT, some (stT p)], rfl, ?_, rfl⟩
    have ix : fIx [stT p, .int 0] = some (tieT p.1) := at_0
    have fx : (tieT p.1).fr = true := rfl
    generalize stT p = Y at ix ⊢
    generalize tieT p.1 = Z at ix fx ⊢
    generalize ss.map stT = LS
    (delta jbt; (repeat' (first | wide_open with (1, nb_t, nb_f) | fail)))
  have fS := jma ss
  have zS := sts_fz ss
  generalize ss.map stT = LS at *
  cases b with
  | true => (repeat' (first | wide_open with (1, nb_t, nb_f, cp) | fail))
  | false => (repeat' (first | wide_open with (1, nb_t, nb_f, cp) | fail))
section
variable (P0 P1 P2 P3 s1 NM s3 A B J : T) (R : List T) (r1 r2 r3 m : Int) (oP : P0.isO true = true)
  (a1 : jab [P0, .int 4] = .ok (.int r1) [P1]) (i1 : fIx [WD6, .int r1] = some A) (ln : fLen [NM] = some (.int m)) (a2 : jab [P1, .int m] = .ok (.int r2) [P2]) (i2 : fIx [NM, .int r2] = some B) (fA : A.fr = true) (fB : B.fr = true) (fN : NM.fr = true)
include a1 i1 ln a2 i2 fA fB fN
theorem fr_no (ts : bLend (bTest (vOp2 (fro jj2) (dOf (rVar 9)) (dComp [10] (iSeq (dVar 7)) (gSlot 10) bYes jbt))) [some P2, some s1, some NM, some s3, some WD6, none, none, some (.lst true R), some J, some (.tup [A, B]), none] = .ok (false, [some P2, some s1, some NM, some s3, some WD6, none, none, some (.lst true R), some J, some (.tup [A, B]), none])) :
    jav [some P0, some s1, some NM, some s3, some WD6, none, none, some (.lst true R), some J, none, none] = .nx [some P2, some s1, some NM, some s3, some WD6, none, none, some (.lst true R), none, none, none] := by
  have fW : (WD6).fr = true := rfl
  generalize WD6 = W at *
  (delta jav; (repeat' (first | wide_open with (1, nb_t, nb_f, ts) | fail)))
theorem fr_yes (ts : bLend (bTest (vOp2 (fro jj2) (dOf (rVar 9)) (dComp [10] (iSeq (dVar 7)) (gSlot 10) bYes jbt))) [some P2, some s1, some NM, some s3, some WD6, none, none, some (.lst true R), some J, some (.tup [A, B]), none] = .ok (true, [some P2, some s1, some NM, some s3, some WD6, none, none, some (.lst true R), some J, some (.tup [A, B]), none]))
    (a3 : jab [P2, .int 2] = .ok (.int r3) [P3]) (c : Bool) (e : fEq [.int r3, .int 0] = some (.bl c)) (ap : jde (.lst true R) [.tup [.tup [A, B], .bl c]] = some (.non, .lst true (R ++ [.tup [.tup [A, B], .bl c]]))) :
    jav [some P0, some s1, some NM, some s3, some WD6, none, none, some (.lst true R), some J, none, none] = .nx [some P3, some s1, some NM, some s3, some WD6, none, none, some (.lst true (R ++ [.tup [.tup [A, B], .bl c]])), none, none, none] := by
  have fW : (WD6).fr = true := rfl
  generalize WD6 = W at *
  (delta jav; (repeat' (first | wide_open with (1, nb_t, nb_f, ts) | fail)))
end
theorem jo9 {ls : List Nm} {i : Int} (h0 : 0 ≤ i) (h : i < ls.length) : ∃ x, x ∈ ls ∧ ∀ o, fIx [.lst o (nmT ls), .int i] = some (sT x) := by
  have hi : i.toNat < ls.length := by omega
  refine ⟨ls[i.toNat], List.getElem_mem hi, fun o => ?_⟩
  show atI (nmT ls) i = _
  unfold atI ixN
  rw [if_pos h0, if_pos (by simpa [nmT] using h)]
  simp [nmT, hi]
  rfl
theorem fr_step (p : Pen) {n : Int} (h : pT n p) (hn : n + 20 < 67108864) (s1 s3 J : T) (z1 : s1.fz = s1) (z3 : s3.fz = s3) (zJ : J.fz = J) {ls : List Nm} (l1 : 1 ≤ ls.length) (l2 : ls.length ≤ 20) (nms : ∀ x ∈ ls, nm x) {ss : List Stp6} (hl : ss.length ≤ 18) (ok : ∀ s ∈ ss, TieOk s.1) (nd : (ss.map (·.1)).Nodup) :
    ∃ (ss' : List Stp6) (p' : Pen), jav [some p.t, some s1, some (.lst false (nmT ls)), some s3, some WD6, none, none, some (.lst true (ss.map stT)), some J, none, none] = .nx [some p'.t, some s1, some (.lst false (nmT ls)), some s3, some WD6, none, none, some (.lst true (ss'.map stT)), none, none, none] ∧
      ss'.length ≤ ss.length + 1 ∧ (∀ s ∈ ss', TieOk s.1) ∧ (ss'.map (·.1)).Nodup ∧ pT (n + 3) p' := by
  obtain ⟨r1, p1, a1, a2, a3, a4⟩ := jfb p h (by omega) 4 (by omega) (by omega)
  obtain ⟨r2, p2, b1, b2, b3, b4⟩ := jfb p1 a4 (by omega) (ls.length : Int) (by omega) (by omega)
  obtain ⟨w, hw, i1⟩ : ∃ w, w ∈ wds6 ∧ fIx [WD6, .int r1] = some (sT w) := by
    have : r1 = 0 ∨ r1 = 1 ∨ r1 = 2 ∨ r1 = 3 := by omega
    rcases this with rfl | rfl | rfl | rfl
    · exact ⟨[98, 101, 103, 105, 110], by simp [wds6], at_0⟩
    · exact ⟨[108, 111, 111, 107], by simp [wds6], at_1⟩
    · exact ⟨[110, 111, 119], by simp [wds6], at_2⟩
    · exact ⟨[115, 111, 109, 101], by simp [wds6], at_3⟩
  obtain ⟨x, hx, i2⟩ := jo9 b2 b3
  have i2 := i2 false
  have hn2 := nms x hx
  have tt := fun b (hb : jj2 [.tup [sT w, sT x], .lst true (ss.map fun s => tieT s.1)] = some (.bl b)) => by
    have t := fr_test p2.t.fz s1 (.lst false (nmT ls)) s3 (.tup [sT w, sT x]) b [] ss (by omega) J rfl hb
    have q : fzE [some p2.t, some s1, some (.lst false (nmT ls)), some s3, some WD6, none, none, some (.lst true (ss.map stT)), some J, some (.tup [sT w, sT x]), none] = [some p2.t.fz, some s1, some (.lst false (nmT ls)), some s3, some WD6, none, none, some (.lst false (ss.map stT)), some J, some (.tup [sT w, sT x]), none] := by
      simp [fzE, T.fz, fzs, z1, z3, zJ, jf4, sts_fz]
    rw [← q] at t
    exact blend_of t
  have ni := in_ties true (w, x) (ss.map (·.1))
  rw [List.map_map] at ni
  by_cases hm : (w, x) ∈ ss.map (·.1)
  · rw [decide_eq_true hm] at ni
    exact ⟨ss, p2, fr_no _ _ _ _ _ _ _ _ _ _ r1 r2 (ls.length : Int) a1 i1 (jlg _ _) b1 i2 rfl rfl (jd1 _) (tt false ni), by omega, ok, nd, b4.1, by have := b4.2; omega⟩
  · rw [decide_eq_false hm] at ni
    obtain ⟨r3, p3, c1, c2, c3, c4⟩ := jfb p2 b4 (by omega) 2 (by omega) (by omega)
    have e : fEq [.int r3, .int 0] = some (.bl (decide (r3 = 0))) := jlb
    have ap : jde (.lst true (ss.map stT)) [.tup [.tup [sT w, sT x], .bl (decide (r3 = 0))]] = some (.non, .lst true (ss.map stT ++ [.tup [.tup [sT w, sT x], .bl (decide (r3 = 0))]])) := eo_ap (by simp; omega)
    refine ⟨ss ++ [((w, x), decide (r3 = 0))], p3, ?_, by simp, fun s hs => ?_, ?_, c4.1, by have := c4.2; omega⟩
    · have r := fr_yes _ _ _ _ _ _ _ _ _ _ _ r1 r2 r3 (ls.length : Int) a1 i1 (jlg _ _) b1 i2 rfl rfl (jd1 _) (tt true ni) c1 _ e ap
      rw [r, List.map_append]
      rfl
    · rcases List.mem_append.mp hs with z | z
      · exact ok s z
      · rw [List.mem_singleton.mp z]; exact ⟨hw, hn2⟩
    · rw [List.map_append]
      exact List.nodup_append.mpr ⟨nd, by simp, fun a ha b hb e => hm (by
        simp at hb
        rw [← hb, ← e]; exact ha)⟩
end Q
set_option pp.maxSteps 3000
set_option maxHeartbeats 0
namespace Q
open PySem PySem.Spec PyProof.Rows L2 PySem.W
theorem pp_c1 (p : Pen) {n : Int} (h : pT n p) (hn : n + 40 < 67108864) (s1 s3 s4 : T) (M : Int) (m0 : 0 < M) (m1 : M ≤ 100) {ls : List Nm} (l1 : 1 ≤ ls.length) (l2 : ls.length ≤ 20) (nms : ∀ x ∈ ls, nm x) (k : Nat) (hk : k ≤ 10) :
    ∃ (ps : List (Nm × Int)) (p' : Pen), cLoop [8] (gSlot 8) bYes jcw (intsT 0 k) [] [some p.t, some s1, some (.lst false (nmT ls)), some s3, some s4, some (.int M), none, none, none, none, none] = .ok (.lst true (ps.map pcX), [some p'.t, some s1, some (.lst false (nmT ls)), some s3, some s4, some (.int M), none, none, none, none, none]) ∧
      ps.length ≤ 10 ∧ (∀ q ∈ ps, PcOk q) ∧ pT (n + 20) p' := by
  obtain ⟨acc, ρ, c1, p', ps, c2, c3, c4, c5, c6⟩ := jhn (own := [8]) (g := gSlot 8) (t := bYes) (d := jcw) (xs := intsT 0 k) (acc := []) (n := 0) (ρ := [some p.t, some s1, some (.lst false (nmT ls)), some s3, some s4, some (.int M), none, none, none, none, none])
    (I := fun i acc ρ => ∃ (q : Pen) (ps : List (Nm × Int)), ρ = [some q.t, some s1, some (.lst false (nmT ls)), some s3, some s4, some (.int M), none, none, none, none, none] ∧ acc = ps.map pcX ∧ ps.length = i ∧ (∀ q ∈ ps, PcOk q) ∧ (i ≤ 10 → pT (n + 2 * i) q)) (fun i acc ρ t _ ex ⟨q, ps, h1, h2, h3, h4, h5⟩ => by
      subst h1
      subst h2
      obtain ⟨hi, J, hJ, rfl⟩ := jgc (by simpa using ex)
      obtain ⟨r1, q1, a1, a2, a3, a4⟩ := jfb q (h5 (by omega)) (by omega) (ls.length : Int) (by omega) (by omega)
      obtain ⟨r2, q2, b1, b2, b3, b4⟩ := jfb q1 a4 (by omega) M (by omega) (by omega)
      obtain ⟨x, hx, i2⟩ := jo9 a2 a3
      have i2 := i2 false
      have ln := jlg false ls
      have fN := jd1 ls
      refine ⟨[some q.t, some s1, some (.lst false (nmT ls)), some s3, some s4, some (.int M), none, none, some (.int J), none, none], [some q.t, some s1, some (.lst false (nmT ls)), some s3, some s4, some (.int M), none, none, some (.int J), none, none], rfl, .inr ⟨rfl, by rw [sizeLine_eq]; simp; omega, pcX (x, r2), [some q2.t, some s1, some (.lst false (nmT ls)), some s3, some s4, some (.int M), none, none, some (.int J), none, none], ?_, q2, ps ++ [(x, r2)], rfl, by simp, by simp [h3], fun s hs => ?_, fun _ => ⟨b4.1, by have := b4.2; omega⟩⟩⟩
      · generalize nmT ls = LS at *
        generalize p.t = PT at *
        (delta jcw; (repeat' (first | wide_open with (1, nb_t, nb_f) | fail)))
      · rcases List.mem_append.mp hs with z | z
        · exact h4 s z
        · rw [List.mem_singleton.mp z]; exact ⟨nms x hx, b2, by show r2 < 100; omega⟩) ⟨p, [], rfl, rfl, rfl, (fun _ z => nomatch z), fun _ => ⟨h.1, by have := h.2; simp only [Int.natCast_zero] at *; omega⟩⟩
  subst c2
  subst c3
  have len : (intsT 0 k).length = k := by simp [intsT]
  rw [len, Nat.zero_add] at c4 c6
  exact ⟨ps, p', c1, by omega, c5, (c6 (by omega)).1, by have := (c6 (by omega)).2; omega⟩
def Paper (t f : T) (x : Nm) : Prop := (∃ (a : Int) (ps : List (Nm × Int)), t = kT true a ps ∧ f = kT false a ps ∧ x = kTx a ps ∧ -P60 < a ∧ a < P60 ∧ ps.length ≤ 20 ∧ (∀ p ∈ ps, PcOk p) ∧ Ris6 (ps.map pcX)) ∨
  ∃ ss : List Stp6, t = fT6 true ss ∧ f = fT6 false ss ∧ x = fTx ss ∧ ss.length ≤ 20 ∧ (∀ s ∈ ss, TieOk s.1) ∧ (ss.map (·.1)).Nodup
section
variable (P0 P1 P2 P3 P4 P5 P6 P7 P8 P9 NM QS : T) (LS PS : List T) (c r M W mo A : Int) (fL : frs LS = true) (zL : fzs LS = LS) (oP : P0.isO true = true)
  (a1 : jab [P0, .int 2] = .ok (.int W) [P1]) (a2 : jab [P1, .int 6] = .ok (.int c) [P2]) (a3 : jbn [P2, .int (1 + c)] = .ok (.lst true LS) [P3]) (a4 : jab [P3, .int 9] = .ok (.int r) [P4]) {k : Int} (a5 : jab [P4, .int 4] = .ok (.int k) [P5]) (ix : fIx [.lst true [.int 0, .int 1, .int r, .int 8], .int k] = some (.int M)) (n62 : small62 M = true)
include fL zL a1 a2 a3 a4 a5 ix n62
theorem tp_evK (e : fEq [.int W, .int 0] = some (.bl true)) {k2 : Int} (a6 : jab [P5, .int 3] = .ok (.int k2) [P6]) (ix2 : fIx [.lst true [.int 3, .int 37, .int 100], .int k2] = some (.int mo))
    (cp : cLoop [8] (gSlot 8) bYes jcw (intsT 0 M.toNat) [] [some P6, some (.int W), some (.lst false LS), some (.int M), some WD6, some (.int mo), none, none, none, none, none] = .ok (.lst true PS, [some P7, some (.int W), some (.lst false LS), some (.int M), some WD6, some (.int mo), none, none, none, none, none])) (zP : fzs PS = PS) (fP : frs PS = true)
    (am : jc5 [P7] = .ok (.int A) [P8]) (st : fSSM [.lst false PS] = some QS) : jas [P0] = .ok (.tup [.str "known", .int A, QS]) [P8] := by
  have ct : fCat [.int 1, .int c] = some (.int (1 + c)) := rfl
  (unfold jas; delta jes; apply jcz (Nat.le_of_ble_eq_true rfl) <;> (repeat' (first | wide_open with (1, nb_t, nb_f, cp) | fail)))
theorem tp_evF (e : fEq [.int W, .int 0] = some (.bl false)) {RS : List T} (lp : fLoop (gSlot 8) jav (intsT 0 M.toNat) [some P5, some (.int W), some (.lst false LS), some (.int M), some WD6, none, none, some (.lst true []), none, none, none] = .nx [some P6, some (.int W), some (.lst false LS), some (.int M), some WD6, none, none, some (.lst true RS), none, none, none]) : jas [P0] = .ok (.tup [.str "free", .lst true RS]) [P6] := by
  have ct : fCat [.int 1, .int c] = some (.int (1 + c)) := rfl
  (unfold jas; delta jes; apply jcz (Nat.le_of_ble_eq_true rfl) <;> (repeat' (first | wide_open with (1, nb_t, nb_f, lp) | fail)))
end
theorem paper_ok (p : Pen) {n : Int} (h : pT n p) (hn : n + 100 < 67108864) : ∃ (t f : T) (x : Nm) (p' : Pen), jas [p.t] = .ok t [p'.t] ∧ Paper t f x ∧ pT (n + 70) p' := by
  obtain ⟨w, p1, a1, a2, a3, a4⟩ := jfb p h (by omega) 2 (by omega) (by omega)
  obtain ⟨c, p2, b1, b2, b3, b4⟩ := jfb p1 a4 (by omega) 6 (by omega) (by omega)
  obtain ⟨ls, p3, c1, c2, c3, c4, c5⟩ := jl6 p2 b4 (by omega) (1 + c) (by omega) (by omega)
  obtain ⟨r, p4, d1, d2, d3, d4⟩ := jfb p3 c5 (by omega) 9 (by omega) (by omega)
  obtain ⟨k, p5, e1, e2, e3, e4⟩ := jfb p4 d4 (by omega) 4 (by omega) (by omega)
  obtain ⟨M, ix, m0, m8⟩ : ∃ M : Int, fIx [.lst true [.int 0, .int 1, .int r, .int 8], .int k] = some (.int M) ∧ 0 ≤ M ∧ M ≤ 8 := by
    have : k = 0 ∨ k = 1 ∨ k = 2 ∨ k = 3 := by omega
    rcases this with rfl | rfl | rfl | rfl
    · exact ⟨0, at_0, by omega, by omega⟩
    · exact ⟨1, at_1, by omega, by omega⟩
    · exact ⟨r, at_2, by omega, by omega⟩
    · exact ⟨8, at_3, by omega, by omega⟩
  have n62 : small62 M = true := jaf (by omega) (by omega)
  have : w = 0 ∨ w = 1 := by omega
  rcases this with rfl | rfl
  · obtain ⟨k2, p6, g1, g2, g3, g4⟩ := jfb p5 e4 (by omega) 3 (by omega) (by omega)
    obtain ⟨mo, ix2, o0, o1⟩ : ∃ mo : Int, fIx [.lst true [.int 3, .int 37, .int 100], .int k2] = some (.int mo) ∧ 0 < mo ∧ mo ≤ 100 := by
      have : k2 = 0 ∨ k2 = 1 ∨ k2 = 2 := by omega
      rcases this with rfl | rfl | rfl
      · exact ⟨3, at_0, by omega, by omega⟩
      · exact ⟨37, at_1, by omega, by omega⟩
      · exact ⟨100, at_2, by omega, by omega⟩
    obtain ⟨ps, p7, h1, h2, h3, h4⟩ := pp_c1 p6 g4 (by omega) (.int 0) (.int M) WD6 mo o0 o1 (ls := ls) (by omega) (by omega) c3 M.toNat (by omega)
    obtain ⟨a, p8, i1, i2, i3, i4⟩ := amount_ok p7 h4 (by omega)
    obtain ⟨qs, j1, j2, j3, j4⟩ := sorted_pc (ps := ps) (by omega) h3
    exact ⟨_, _, _, p8, tp_evK _ _ _ _ _ _ _ _ _ _ _ _ c r M 0 mo a (jd1 ls) (jf4 ls) a1 b1 c1 d1 e1 ix n62 rfl g1 ix2 h1 (pcs_fz ps) (jko ps) i1 j1, .inl ⟨a, qs, rfl, rfl, rfl, i2, i3, j2, j3, j4⟩, i4.1, by have := i4.2; omega⟩
  · obtain ⟨ρ, l1, q, ss, l2, l3, l4, l5, l6⟩ := jfk (g := gSlot 8) (b := jav) (ts := intsT 0 M.toNat) (n := 0) (ρ := [some p5.t, some (.int 1), some (.lst false (nmT ls)), some (.int M), some WD6, none, none, some (.lst true (([] : List Stp6).map stT)), none, none, none])
      (I := fun i ρ => ∃ (q : Pen) (ss : List Stp6), ρ = [some q.t, some (.int 1), some (.lst false (nmT ls)), some (.int M), some WD6, none, none, some (.lst true (ss.map stT)), none, none, none] ∧ ss.length ≤ i ∧ (∀ s ∈ ss, TieOk s.1) ∧ (ss.map (·.1)).Nodup ∧ (i ≤ 10 → pT (n + 15 + 3 * i) q)) (fun i ρ t _ ex ⟨q, ss, e, h1, h2, h3, h4⟩ => by
        subst e
        obtain ⟨hi, J, hJ, rfl⟩ := jgc (by simpa using ex)
        obtain ⟨ss', q2, k1, k2, k3, k4, k5⟩ := fr_step q (h4 (by omega)) (by omega) (.int 1) (.int M) (.int J) rfl rfl rfl (ls := ls) (by omega) (by omega) c3 (ss := ss) (by omega) h2 h3
        exact ⟨_, _, rfl, .inl k1, q2, ss', rfl, by omega, k3, k4, fun _ => ⟨k5.1, by have := k5.2; omega⟩⟩) ⟨p5, [], rfl, Nat.le_refl _, (fun _ z => nomatch z), List.nodup_nil, fun _ => ⟨e4.1, by have := e4.2; simp only [Int.natCast_zero] at *; omega⟩⟩
    subst l2
    have len : (intsT 0 M.toNat).length = M.toNat := by simp [intsT]
    rw [len, Nat.zero_add] at l3 l6
    exact ⟨_, _, _, q, tp_evF _ _ _ _ _ _ _ _ c r M 1 (jd1 ls) (jf4 ls) a1 b1 c1 d1 e1 ix n62 rfl l1, .inr ⟨ss, rfl, rfl, rfl, by omega, l4, l5⟩, (l6 (by omega)).1, by have := (l6 (by omega)).2; omega⟩
end Q
set_option pp.maxSteps 3000
set_option maxHeartbeats 0
namespace Q
open PySem PySem.Spec PyProof.Rows L2 PySem.W
theorem jpa (s sub : Str) (hi : Nat) : ∀ (l : List Nat) (st : Array Nat × Nat), st.1.size = 1 → (forIn l st (StrLaws.occBody s sub hi 1)).run = st
  | [], st, _ => rfl
  | i :: l, st, h => by
    have e : StrLaws.occBody s sub hi 1 i st = pure (ForInStep.yield (st.fst, st.snd)) := by
      unfold StrLaws.occBody
      rw [if_neg]
      rintro ⟨⟨⟨h1, _⟩, _⟩, _⟩
      omega
    rw [List.forIn_cons, e]
    exact jpa s sub hi l st h
theorem jmz (s sub : Str) (hi : Nat) : ∀ (n lo free k : Nat), free ≤ lo → lo ≤ k → k < lo + n → k + sub.length ≤ hi → Builtin.Str.subAt s sub k = true → (∀ i, lo ≤ i → i < k → ¬ Builtin.Str.subAt s sub i = true) →
    (forIn (List.range' lo n) ((#[] : Array Nat), free) (StrLaws.occBody s sub hi 1)).run.fst = #[k]
  | 0, lo, free, k, _, h1, h2, _, _, _ => absurd h2 (by omega)
  | n + 1, lo, free, k, h0, h1, h2, h3, h4, h5 => by
    rw [List.range'_succ, List.forIn_cons]
    by_cases z : lo = k
    · subst z
      have e : StrLaws.occBody s sub hi 1 lo ((#[] : Array Nat), free) = pure (ForInStep.yield ((#[] : Array Nat).push lo, lo + sub.length)) := by
        unfold StrLaws.occBody
        rw [if_pos ⟨⟨⟨by simp, h0⟩, h3⟩, h4⟩]
      rw [e]
      show (forIn _ ((#[] : Array Nat).push lo, lo + sub.length) (StrLaws.occBody s sub hi 1)).run.fst = _
      rw [jpa _ _ _ _ _ (by simp)]
      rfl
    · have e : StrLaws.occBody s sub hi 1 lo ((#[] : Array Nat), free) = pure (ForInStep.yield ((#[] : Array Nat), free)) := by
        unfold StrLaws.occBody
        rw [if_neg]
        rintro ⟨_, q⟩
        exact h5 lo (Nat.le_refl _) (by omega) q
      rw [e]
      exact jmz s sub hi n (lo + 1) free k (by omega) (by omega) (by omega) h3 h4 fun i h6 h7 => h5 i (by omega) h7
theorem sub_S (a b : Nm) (i : Nat) : Builtin.Str.subAt (SX.S a) (SX.S b) i = decide ((a.drop i).take b.length = b) := by
  have e : ((SX.S a).cps.extract i (i + (SX.S b).length)) = ((a.drop i).take b.length).toArray := by
    rw [SX.S_len]
    show a.toArray.extract i (i + b.length) = _
    rw [List.extract_toArray, List.extract_eq_drop_take, show i + b.length - i = b.length by omega]
  show ((SX.S a).cps.extract i (i + (SX.S b).length) == b.toArray) = _
  rw [e]
  by_cases h : (a.drop i).take b.length = b
  · rw [h]; simp
  · simp [h]
theorem find_ok {pre mid b post : Nm} {c : Nat} {b' : Nm} (hb : b = c :: b') (hc : c ∉ mid) : Txt.find3 (SX.S (pre ++ mid ++ b ++ post)) (SX.S b) (pre.length : Int) = ((pre.length + mid.length : Nat) : Int) := by
  have ln : (SX.S (pre ++ mid ++ b ++ post)).length = (pre ++ mid ++ b ++ post).length := SX.S_len _
  have fi : fromIndex (SX.S (pre ++ mid ++ b ++ post)).length (pre.length : Int) = pre.length := by
    unfold fromIndex
    split <;> omega
  have oc : Builtin.Str.occurrences (SX.S (pre ++ mid ++ b ++ post)) (SX.S b) pre.length (SX.S (pre ++ mid ++ b ++ post)).length 1 = [pre.length + mid.length] := by
    rw [StrLaws.occ_eq, jmz _ _ _ _ _ _ (pre.length + mid.length) (Nat.le_refl _) (by omega) (by rw [ln]; simp; omega) (by rw [ln, SX.S_len]; simp; omega)]
    · rw [sub_S, decide_eq_true]
      rw [show pre ++ mid ++ b ++ post = (pre ++ mid) ++ (b ++ post) by simp, List.drop_append_of_le_length (by simp), show (pre ++ mid).drop (pre.length + mid.length) = [] by simp]
      simp
    · intro i h1 h2
      rw [sub_S, decide_eq_true_eq]
      intro q
      have e : (pre ++ mid ++ b ++ post).drop i = mid.drop (i - pre.length) ++ (b ++ post) := by
        rw [show pre ++ mid ++ b ++ post = pre ++ (mid ++ (b ++ post)) by simp, List.drop_append, List.drop_eq_nil_of_le h1, List.nil_append, List.drop_append_of_le_length (by omega)]
      rw [e] at q
      have lt : i - pre.length < mid.length := by omega
      rw [List.drop_eq_getElem_cons lt, hb, List.cons_append, List.length_cons, List.take_succ_cons] at q
      injection q with q1 q2
      exact hc (q1 ▸ List.getElem_mem lt)
  unfold Txt.find3
  rw [fi, oc]
end Q
set_option pp.maxSteps 3000
set_option maxHeartbeats 0
namespace Q
open PySem PySem.Spec PyProof.Rows L2 PySem.W
def trX (g : Nm) (ns : List Nm) (ks : List Nm) : Nm := g ++ [91] ++ TL.joinL [32] ns ++ [93, 40] ++ TL.joinL [32] ks ++ [41]
abbrev trT (g : Nm) (ns : List Nm) (ts : List T) : T := .tup [sT g, .tup (nmT ns), .tup ts]
structure NsOk (ns : List Nm) : Prop where
  nm : ∀ n ∈ ns, nm n
  l1 : 1 ≤ ns.length
  l3 : ns.length ≤ 3
  ri : Ris6 (nmT ns)
def TR : Nat → T → Nm → Prop
  | 0, _, _ => False
  | d + 1, t, x => ∃ (g : Nm) (ns : List Nm) (ks : List (T × Nm)), Q.nm g ∧ NsOk ns ∧ (ks = [] ∨ ks.length = ns.length) ∧ (∀ k ∈ ks, TR d k.1 k.2) ∧ t = trT g ns (ks.map (·.1)) ∧ x = trX g ns (ks.map (·.2))
def trL : Nat → Nat
  | 0 => 0
  | d + 1 => 50 + 3 * (trL d + 1)
theorem ns_len {ns : List Nm} (h : NsOk ns) : (TL.joinL [32] ns).length ≤ 27 := by
  have := jgy 32 ns
  have := jkn (l := ns) (k := 8) fun p hp => (nm_len (h.nm p hp)).2
  have := h.l3
  omega
theorem TR.len : ∀ {d : Nat} {t : T} {x : Nm}, TR d t x → x.length ≤ trL d
  | d + 1, t, x, ⟨g, ns, ks, h1, h2, h3, h4, h5, h6⟩ => by
    have l0 := nm_len h1
    have l1 := ns_len h2
    have l2 := jgy 32 (ks.map (·.2))
    have l3 := jkn (l := ks.map (·.2)) (k := trL d) fun p hp => by
      obtain ⟨k, hk, rfl⟩ := List.mem_map.mp hp
      exact TR.len (h4 k hk)
    have l4 : ks.length ≤ 3 := by
      have := h2.l3
      rcases h3 with rfl | h3
      · simp
      · omega
    have l5 : ks.length * trL d ≤ 3 * trL d := Nat.mul_le_mul_right _ l4
    rw [h6]
    simp [trX, trL] at *
    omega
theorem TR.fr : ∀ {d : Nat} {t : T} {x : Nm}, TR d t x → t.fr = true
  | d + 1, t, x, ⟨g, ns, ks, h1, h2, h3, h4, h5, h6⟩ => by
    have : frs (ks.map (·.1)) = true := by
      rw [jjg, List.all_eq_true]
      intro y hy
      obtain ⟨k, hk, rfl⟩ := List.mem_map.mp hy
      exact TR.fr (h4 k hk)
    rw [h5]
    simp [T.fr, frs, jd1, this]
theorem jm0 {d : Nat} {ks : List (T × Nm)} (h : ∀ k ∈ ks, TR d k.1 k.2) : frs (ks.map (·.1)) = true := by
  rw [jjg, List.all_eq_true]
  intro y hy
  obtain ⟨k, hk, rfl⟩ := List.mem_map.mp hy
  exact (h k hk).fr
theorem trL_le : ∀ {d : Nat}, d ≤ 3 → trL d ≤ 689
  | 0, _ => by decide
  | 1, _ => by decide
  | 2, _ => by decide
  | 3, _ => by decide
theorem join_tup (sep : Nm) (l : List Nm) (h : totW l + l.length * sep.length ≤ 100000) : fJoin [sT sep, .tup (nmT l)] = some (sT (TL.joinL sep l)) := by
  have := jou true sep l h
  exact this
theorem tx_ev (f : FD) (G N1 N2 N3 A B C D R : T) (NS TS : List T) (fG : G.fr = true) (fN : frs NS = true) (fT : frs TS = true) (zT : fzs TS = TS) (a1 : fAddR [G, .str "["] = some N1) (f1 : N1.fr = true) (j1 : fJoin [.str " ", .tup NS] = some A) (fA : A.fr = true) (c1 : fCat [N1, A] = some N2) (c2 : fCat [N2, .str "]("] = some N3)
    {XS : List T} (cp : cLoop [4] (gSlot 4) bYes (jfh f) TS [] [some (.tup [G, .tup NS, .tup TS]), some G, some (.tup NS), some (.tup TS), none] = .ok (.lst true XS, [some (.tup [G, .tup NS, .tup TS]), some G, some (.tup NS), some (.tup TS), none])) (j2 : fJoin [.str " ", .lst true XS] = some B) (fB : B.fr = true) (c3 : fCat [N3, B] = some C) (c4 : fCat [C, .str ")"] = some R) :
    fRun 5 [] (jgr f) [.tup [G, .tup NS, .tup TS]] = .ok R [] := by
  (delta jgr; apply jcz (Nat.le_of_ble_eq_true rfl) <;> (repeat' (first | wide_open with (1, nb_t, nb_f, cp) | fail)))
theorem jjc : ∀ {d : Nat} (k : Nat) {t : T} {x : Nm}, d ≤ 3 → TR d t x → jc6 (k + d) [t] = .ok (sT x) []
  | d + 1, k, t, x, hd, ⟨g, ns, ks, h1, h2, h3, h4, h5, h6⟩ => by
    have l0 := nm_len h1
    have l1 := ns_len h2
    have l3 := jkn (l := ks.map (·.2)) (k := 689) fun p hp => by
      obtain ⟨k, hk, rfl⟩ := List.mem_map.mp hp
      exact Nat.le_trans (h4 k hk).len (trL_le (by omega))
    have l4 : ks.length ≤ 3 := by
      have := h2.l3
      rcases h3 with rfl | h3
      · simp
      · omega
    have l2 := jgy 32 (ks.map (·.2))
    have t1 := jkn (l := ns) (k := 8) fun p hp => (nm_len (h2.nm p hp)).2
    have n3 := h2.l3
    have fk := jm0 h4
    subst h5
    have cp : cLoop [4] (gSlot 4) bYes (jfh (jc6 (k + d))) (ks.map (·.1)) [] [some (trT g ns (ks.map (·.1))), some (sT g), some (.tup (nmT ns)), some (.tup (ks.map (·.1))), none] =
        .ok (.lst true (ks.map fun k => sT k.2), [some (trT g ns (ks.map (·.1))), some (sT g), some (.tup (nmT ns)), some (.tup (ks.map (·.1))), none]) := by
      refine jnf (fun k : T × Nm => k.1) (fun k => sT k.2) (by rfl) ks (by omega) fun q hq => ?_
      have e := jjc k (by omega) (h4 q hq)
      have fq := (h4 q hq).fr
      refine ⟨[some (trT g ns (ks.map (·.1))), some (sT g), some (.tup (nmT ns)), some (.tup (ks.map (·.1))), some q.1], [some (trT g ns (ks.map (·.1))), some (sT g), some (.tup (nmT ns)), some (.tup (ks.map (·.1))), some q.1], rfl, ?_, rfl⟩
      generalize trT g ns (ks.map (·.1)) = TT
      generalize jc6 (k + d) = FF at e
      generalize q.1 = QQ at e fq
      generalize sT q.2 = RR at e
      generalize ks.map (·.1) = KK
      (delta jfh; (repeat' (first | wide_open with (1, nb_t, nb_f) | fail)))
    have em : (ks.map fun k => sT k.2) = nmT (ks.map (·.2)) := by rw [nmT, List.map_map]; rfl
    rw [em] at cp
    have a1 : fAddR [sT g, .str "["] = some (sT (g ++ [91])) := jha (a := g) (b := [91]) (by simp; omega)
    have c1 := jgp (a := g ++ [91]) (b := TL.joinL [32] ns) (by simp; omega)
    have c2 : fCat [sT (g ++ [91] ++ TL.joinL [32] ns), .str "]("] = some (sT (g ++ [91] ++ TL.joinL [32] ns ++ [93, 40])) := jgp (b := [93, 40]) (by simp; omega)
    simp only [List.length_map] at l2 l3
    have c3 := jgp (a := g ++ [91] ++ TL.joinL [32] ns ++ [93, 40]) (b := TL.joinL [32] (ks.map (·.2))) (by simp; omega)
    have c4 : fCat [sT (g ++ [91] ++ TL.joinL [32] ns ++ [93, 40] ++ TL.joinL [32] (ks.map (·.2))), .str ")"] = some (sT (g ++ [91] ++ TL.joinL [32] ns ++ [93, 40] ++ TL.joinL [32] (ks.map (·.2)) ++ [41])) := jgp (b := [41]) (by simp; omega)
    rw [h6]
    show fRun 5 [] (jgr (jc6 (k + d))) [trT g ns (ks.map (·.1))] = _
    exact tx_ev _ _ _ _ _ _ _ _ .non _ _ _ rfl (jd1 ns) fk (jg3 _ fk) a1 rfl (join_tup [32] ns (by simp; omega)) rfl c1 c2 cp (jou true [32] _ (by simp; omega)) rfl c3 c4
end Q
set_option pp.maxSteps 3000
set_option maxHeartbeats 0
namespace Q
open PySem PySem.Spec PyProof.Rows L2 PySem.W
def sep6 (i : Nat) : Nm := if i = 0 then [] else [32]
theorem jlh (l : List Nm) (w : Nm) : TL.joinL [32] (l ++ [w]) = TL.joinL [32] l ++ sep6 l.length ++ w := by
  cases l with
  | nil => simp [jbi, tl_, sep6, TL.joinL]
  | cons a l => rw [List.cons_append, jbi, jbi, tl_app, jho]; simp [sep6, tl_]
theorem rep6 (i : Nat) : ∃ n : Int, ∃ b : Bool, fGt [.int (i : Int), .int 0] = some (.bl b) ∧ fInt [.bl b] = some (.int n) ∧ fMulT [.str " ", .int n] = some (sT (sep6 i)) := by
  by_cases h : i = 0
  · subst h
    exact ⟨0, false, rfl, rfl, by first | rfl | simp +decide [fMulT, sep6, repS]⟩
  · refine ⟨1, true, ?_, rfl, ?_⟩
    · show some (T.bl (decide ((i : Int) > 0))) = _
      rw [decide_eq_true (by omega)]
    · rw [show sep6 i = [32] from if_neg h]
      first | rfl | simp +decide [fMulT, repS]
theorem lt_b1 (f : FD) (t G NS TS A B C S W : T) (k n : Int) (b : Bool) (gt : fGt [.int k, .int 0] = some (.bl b)) (ib : fInt [.bl b] = some (.int n)) (mu : fMulT [.str " ", .int n] = some S) (a1 : fAddR [A, S] = some B) (ix : fIx [NS, .int k] = some W) (a2 : fAddR [B, W] = some C) (fC : C.fr = true) :
    jc1 f [some t, some G, some NS, some TS, some A, some (.int k)] = .nx [some t, some G, some NS, some TS, some C, none] := by
  (delta jc1; (repeat' (first | wide_open with (1, nb_t, nb_f) | fail)))
theorem lt_b2 (f : FD) (t G NS TS A B C S W R : T) (k n : Int) (b : Bool) (gt : fGt [.int k, .int 0] = some (.bl b)) (ib : fInt [.bl b] = some (.int n)) (mu : fMulT [.str " ", .int n] = some S) (a1 : fAddR [A, S] = some B) (fB : B.fr = true) (ix : fIx [TS, .int k] = some W) (fW : W.fr = true) (cl : f [W] = .ok R []) (a2 : fCat [B, R] = some C) (zC : C.fz = C) :
    jc2 f [some t, some G, some NS, some TS, some A, some (.int k)] = .nx [some t, some G, some NS, some TS, some C, none] := by
  (delta jc2; (repeat' (first | wide_open with (1, nb_t, nb_f) | fail)))
theorem at_map {α : Type} (F : α → T) {l : List α} {i : Nat} (hi : i < l.length) (o : Bool) : fIx [.tup (l.map F), .int (i : Int)] = some (F l[i]) := by
  show atI (l.map F) (i : Int) = _
  unfold atI ixN
  rw [if_pos (by omega), if_pos (by simpa using hi)]
  simp [hi]
theorem lt_loop {α : Type} (F : α → T) (g : α → Nm) (ws : List α) (hl : ws.length ≤ 10) (hw : ∀ w ∈ ws, (g w).length ≤ 1000) (base : Nm) (hb : base.length ≤ 2000) (E : Option T → Option T → Env) (B : Ds)
    (st : ∀ (i : Nat) (hi : i < ws.length) (acc : Nm), acc.length ≤ 20000 → B (E (some (sT acc)) (some (.int (i : Int)))) = .nx (E (some (sT (acc ++ sep6 i ++ g ws[i]))) none))
    (hE : ∀ a t, gSlot 5 t (E a none) = some (E a (some t))) :
    fLoop (gSlot 5) B (intsT 0 ws.length) (E (some (sT base)) none) = .nx (E (some (sT (base ++ TL.joinL [32] (ws.map g)))) none) := by
  obtain ⟨ρ, l1, l2⟩ := jfk (g := gSlot 5) (b := B) (ts := intsT 0 ws.length) (n := 0) (ρ := E (some (sT base)) none)
    (I := fun i ρ => ρ = E (some (sT (base ++ TL.joinL [32] ((ws.take i).map g)))) none) (fun i ρ t _ ex e => by
      subst e
      obtain ⟨hi, J, hJ, rfl⟩ := jgc (by simpa using ex)
      obtain rfl : J = (i : Int) := by omega
      refine ⟨_, _, hE _ _, .inl (st i hi _ ?_), ?_⟩
      · have := jgy 32 ((ws.take i).map g)
        have := jkn (l := (ws.take i).map g) (k := 1000) fun p hp => by
          obtain ⟨w, hw2, rfl⟩ := List.mem_map.mp hp
          exact hw w (List.mem_of_mem_take hw2)
        simp at *
        have : min i ws.length ≤ 10 := by omega
        have : min i ws.length * 1000 ≤ 10 * 1000 := Nat.mul_le_mul_right _ this
        omega
      · show E _ none = E _ none
        rw [List.take_succ, List.getElem?_eq_getElem hi, List.map_append]
        show _ = E (some (sT (base ++ TL.joinL [32] ((ws.take i).map g ++ [g ws[i]])))) none
        rw [jlh, List.length_map, List.length_take, Nat.min_eq_left (by omega)]
        simp) (by simp [TL.joinL])
  have len : (intsT 0 ws.length).length = ws.length := by simp [intsT]
  rw [len, Nat.zero_add, List.take_length] at l2
  rw [l1, l2]
theorem ltx_ev (f : FD) (t G N1 N2 N3 N4 R : T) (NS TS : List T) (a b : Int) (ht : t = .tup [G, .tup NS, .tup TS]) (fG : G.fr = true) (fN : frs NS = true) (fT : frs TS = true) (a1 : fAddR [G, .str "["] = some N1) (f1 : N1.fr = true) (l1 : fLen [.tup NS] = some (.int a)) (s1 : small62 a = true) (l2 : fLen [.tup TS] = some (.int b)) (s2 : small62 b = true)
    (lp1 : fLoop (gSlot 5) (jc1 f) (intsT 0 a.toNat) [some t, some G, some (.tup NS), some (.tup TS), some N1, none] = .nx [some t, some G, some (.tup NS), some (.tup TS), some N2, none]) (a2 : fAddR [N2, .str "]("] = some N3) (f3 : N3.fr = true)
    (lp2 : fLoop (gSlot 5) (jc2 f) (intsT 0 b.toNat) [some t, some G, some (.tup NS), some (.tup TS), some N3, none] = .nx [some t, some G, some (.tup NS), some (.tup TS), some N4, none]) (a3 : fAddR [N4, .str ")"] = some R) (fR : R.fr = true) :
    fRun 6 [] (jea f) [t] = .ok R [] := by
  have it : gTree 3 (jbl (gSlot 1) (jbl (gSlot 2) (jbl (gSlot 3) gsNil))) t [some t, none, none, none, none, none] = some [some t, some G, some (.tup NS), some (.tup TS), none, none] := by rw [ht]; rfl
  have ft : t.fr = true := by rw [ht]; simp [T.fr, frs, fG, fN, fT]
  clear ht
  (delta jea; apply jcz (Nat.le_of_ble_eq_true rfl) <;> (repeat' (first | wide_open with (1, nb_t, nb_f, lp1, lp2) | fail)))
theorem jgq : ∀ {d : Nat} (k : Nat) {t : T} {x : Nm}, d ≤ 3 → TR d t x → jbg (k + d) [t] = .ok (sT x) []
  | d + 1, k, t, x, hd, ⟨g, ns, ks, h1, h2, h3, h4, h5, h6⟩ => by
    have l0 := nm_len h1
    have lj := ns_len h2
    have l3 : ∀ q ∈ ks, q.2.length ≤ 689 := fun q hq => Nat.le_trans (h4 q hq).len (trL_le (by omega))
    have l4 : ks.length ≤ 3 := by
      have := h2.l3
      rcases h3 with rfl | h3
      · simp
      · omega
    have n3 := h2.l3
    have fk := jm0 h4
    have t3 := jkn (l := ks.map (·.2)) (k := 689) fun p hp => by
      obtain ⟨k, hk, rfl⟩ := List.mem_map.mp hp
      exact l3 k hk
    have l2 := jgy 32 (ks.map (·.2))
    simp only [List.length_map] at l2 t3
    have lp1 := lt_loop (fun n : Nm => sT n) id ns (by omega) (fun w hw => by have := (nm_len (h2.nm w hw)).2; show w.length ≤ 1000; omega) (g ++ [91]) (by simp; omega) (fun a b => [some t, some (sT g), some (.tup (nmT ns)), some (.tup (ks.map (·.1))), a, b]) (jc1 (jbg (k + d))) (fun i hi acc ha => by
      obtain ⟨n, b, e1, e2, e3⟩ := rep6 i
      have s1 : (sep6 i).length ≤ 1 := by unfold sep6; split <;> simp
      have := (nm_len (h2.nm ns[i] (List.getElem_mem hi))).2
      exact lt_b1 _ _ _ _ _ _ _ _ _ _ _ n b e1 e2 e3 (jha (by omega)) (at_map (fun n : Nm => sT n) hi true) (jha (by simp; omega)) rfl) (fun a t => rfl)
    have lp2 := lt_loop (fun q : T × Nm => q.1) (fun q => q.2) ks (by omega) (fun w hw => by have := l3 w hw; omega) (g ++ [91] ++ TL.joinL [32] ns ++ [93, 40]) (by simp; omega) (fun a b => [some t, some (sT g), some (.tup (nmT ns)), some (.tup (ks.map (·.1))), a, b]) (jc2 (jbg (k + d))) (fun i hi acc ha => by
      obtain ⟨n, b, e1, e2, e3⟩ := rep6 i
      have s1 : (sep6 i).length ≤ 1 := by unfold sep6; split <;> simp
      have m := List.getElem_mem hi
      have := l3 ks[i] m
      exact lt_b2 _ _ _ _ _ _ _ _ _ _ _ _ n b e1 e2 e3 (jha (by omega)) rfl (at_map (fun q : T × Nm => q.1) hi true) (h4 ks[i] m).fr (jgq k (by omega) (h4 ks[i] m)) (jgp (by simp; omega)) rfl) (fun a t => rfl)
    have a1 : fAddR [sT g, .str "["] = some (sT (g ++ [91])) := jha (a := g) (b := [91]) (by simp; omega)
    have a2 : fAddR [sT (g ++ [91] ++ TL.joinL [32] ns), .str "]("] = some (sT (g ++ [91] ++ TL.joinL [32] ns ++ [93, 40])) := jha (b := [93, 40]) (by simp; omega)
    have a3 : fAddR [sT (g ++ [91] ++ TL.joinL [32] ns ++ [93, 40] ++ TL.joinL [32] (ks.map (·.2))), .str ")"] = some (sT (g ++ [91] ++ TL.joinL [32] ns ++ [93, 40] ++ TL.joinL [32] (ks.map (·.2)) ++ [41])) := jha (b := [41]) (by simp; omega)
    rw [h6]
    show fRun 6 [] (jea (jbg (k + d))) [t] = _
    rw [List.map_id] at lp1
    exact ltx_ev _ _ _ _ _ _ _ _ _ _ (ns.length : Int) (ks.length : Int) h5 rfl (jd1 ns) fk a1 rfl (by rw [jbz]; simp [nmT]) (jaf (by omega) (by omega)) (by rw [jbz]; simp) (jaf (by omega) (by omega)) lp1 a2 rfl lp2 a3 rfl
end Q
set_option pp.maxSteps 3000
set_option maxHeartbeats 0
namespace Q
open PySem PySem.Spec PyProof.Rows L2 PySem.W
theorem cutM {b : Nm} {i j : Int} (h : 0 ≤ i) (hij : i ≤ j) (hj : j ≤ b.length) (hb : b.length ≤ 100000) : fCut (sT b) (some i) (some j) = some (sT ((b.drop i.toNat).take (j - i).toNat)) := by
  have l : (SX.S b).length ≤ sizeLine := by rw [SX.S_len, sizeLine_eq]; omega
  have e := beq_iff_eq.mp (PyProof.Rows.slice_closes (x := SX.S b) (i := i) (j := j) ⟨h, hij, by simpa [SX.S] using hj⟩)
  unfold sT
  rw [jbu, if_pos l, e]
theorem jjw {X : Nm} (pre mid post : Nm) (hX : X = pre ++ mid ++ post) (hl : X.length ≤ 100000) {i j : Int} (hi : i = pre.length) (hj : j = pre.length + mid.length) : fCut (sT X) (some i) (some j) = some (sT mid) := by
  subst hi hj hX
  have e : (((pre ++ mid ++ post).drop ((pre.length : Int)).toNat).take ((pre.length : Int) + mid.length - pre.length).toNat) = mid := by
    rw [show ((pre.length : Int)).toNat = pre.length by omega, show ((pre.length : Int) + mid.length - pre.length).toNat = mid.length by omega, List.append_assoc, List.drop_left, List.take_left]
  rw [cutM (by omega) (by omega) (by simp; omega) hl, e]
section
variable (f : FD) (X G NS C S t cut en : T) (R : List T) (at_ at2 deep num L n : Int) (b : Bool) (fX : X.fr = true) (ft : t.fr = true) (zt : t.fz = t) (cl : f [X, .int at_, .int (deep + 1)] = .ok (.tup [t, .int at2]) []) (ap : jde (.lst true R) [t] = some (.non, .lst true (R ++ [t])))
  (ct : fCut X (some at2) (some (at2 + 1)) = some C) (ln : fLen [NS] = some (.int L)) (eq : fEq [.int num, .int L] = some (.bl b)) (ib : fInt [.bl b] = some (.int n)) (ix : fIx [.lst true [.str " ", .str ")"], .int n] = some S) (fS : S.fr = true) (e : fEq [C, S] = some (.bl true))
include fS fX ft zt cl ap ct ln eq ib ix e
theorem ta_step : jfs f [some X, some (.int at_), some (.int deep), some cut, some en, some G, some NS, some (.lst true R), some (.int num), none, none] =
    .nx [some X, some (.int (at2 + 1)), some (.int deep), some cut, some en, some G, some NS, some (.lst true (R ++ [t])), none, none, none] := by
  have nd : jbw [.bl true] = .ok .non [] := by (unfold jbw; delta jht; apply jcz (Nat.le_of_ble_eq_true rfl) <;> (repeat' (first | wide_open with (1, nb_t, nb_f) | fail)))
  have zz : (T.tup [t, .int at2]).fz = .tup [t, .int at2] := by simp [T.fz, fzs, zt]
  (delta jfs; (repeat' (first | wide_open with (1, nb_t, nb_f) | fail)))
end
section
variable (f : FD) (X G Z C : T) (NS BS : List T) (at_ cut en deep : Int) (fX : X.fr = true) (dp : deep ≤ 3) (f1 : fFind [X, .str "[", .int at_] = some (.int cut)) (f2 : fFind [X, .str "](", .int at_] = some (.int en)) (h1 : at_ < cut) (h2 : cut < en)
  (c1 : fCut X (some at_) (some cut) = some G) (fG : G.fr = true) (zG : G.fz = G) (nm : jbr [G] = .ok (.bl true) []) (c2 : fCut X (some (cut + 1)) (some en) = some Z) (sp : jg2 [Z, .str " "] = some (.lst true NS)) (fN : frs NS = true) (zN : fzs NS = NS)
  (cp : cLoop [10] (gSlot 10) bYes (jgs f) NS [] [some X, some (.int at_), some (.int deep), some (.int cut), some (.int en), some G, some (.lst false NS), none, none, none, none] = .ok (.lst true BS, [some X, some (.int at_), some (.int deep), some (.int cut), some (.int en), some G, some (.lst false NS), none, none, none, none]))
  (al : fAll [.lst true BS] = some (.bl true)) (ri : jb6 [.lst false NS] = .ok (.bl true) []) (c3 : fCut X (some (en + 2)) (some (en + 2 + 1)) = some C) (tu : fTuple [.lst false NS] = some (.tup NS))
include fX dp f1 f2 h1 h2 c1 fG zG nm c2 sp fN zN cp al ri c3 tu
theorem ta_leaf (e : fEq [C, .str ")"] = some (.bl true)) : fRun 11 [] (jgt f) [X, .int at_, .int deep] = .ok (.tup [.tup [G, .tup NS, .tup []], .int (en + 2 + 1)]) [] := by
  have nd : jbw [.bl true] = .ok .non [] := by (unfold jbw; delta jht; apply jcz (Nat.le_of_ble_eq_true rfl) <;> (repeat' (first | wide_open with (1, nb_t, nb_f) | fail)))
  have l1 : fLe [.int deep, .int 3] = some (.bl true) := by show some (T.bl (decide (deep ≤ 3))) = _; rw [decide_eq_true dp]
  have ch : jcs fLt fLt (rVar 1) (rVar 3) (rVar 4) [some X, some (.int at_), some (.int deep), some (.int cut), some (.int en), none, none, none, none, none, none] = some (.bl true) := by
    have x1 : rOp2 fLt (rVar 1) (rVar 3) [some X, some (.int at_), some (.int deep), some (.int cut), some (.int en), none, none, none, none, none, none] = some (.bl (decide (at_ < cut))) := rfl
    have x2 : rOp2 fLt (rVar 3) (rVar 4) [some X, some (.int at_), some (.int deep), some (.int cut), some (.int en), none, none, none, none, none, none] = some (.bl (decide (cut < en))) := rfl
    unfold jcs
    rw [x1, decide_eq_true h1, x2, decide_eq_true h2]
  (delta jgt; apply jcz (Nat.le_of_ble_eq_true rfl) <;> (repeat' (first | wide_open with (1, nb_t, nb_f, cp, ch) | fail)))
theorem ta_node (e : fEq [C, .str ")"] = some (.bl false)) {L at2 : Int} {TS : List T} (fT : frs TS = true) (ln : fLen [.lst false NS] = some (.int L)) (n62 : small62 (L + 1) = true)
    (lp : fLoop (gSlot 8) (jfs f) (intsT 1 L.toNat) [some X, some (.int (en + 2)), some (.int deep), some (.int cut), some (.int en), some G, some (.lst false NS), some (.lst true []), none, none, none] = .nx [some X, some (.int at2), some (.int deep), some (.int cut), some (.int en), some G, some (.lst false NS), some (.lst true TS), none, none, none]) :
    fRun 11 [] (jgt f) [X, .int at_, .int deep] = .ok (.tup [.tup [G, .tup NS, .tup TS], .int at2]) [] := by
  have nd : jbw [.bl true] = .ok .non [] := by (unfold jbw; delta jht; apply jcz (Nat.le_of_ble_eq_true rfl) <;> (repeat' (first | wide_open with (1, nb_t, nb_f) | fail)))
  have tu2 : fTuple [.lst true TS] = some (.tup TS) := if_pos fT
  have l1 : fLe [.int deep, .int 3] = some (.bl true) := by show some (T.bl (decide (deep ≤ 3))) = _; rw [decide_eq_true dp]
  have ch : jcs fLt fLt (rVar 1) (rVar 3) (rVar 4) [some X, some (.int at_), some (.int deep), some (.int cut), some (.int en), none, none, none, none, none, none] = some (.bl true) := by
    have x1 : rOp2 fLt (rVar 1) (rVar 3) [some X, some (.int at_), some (.int deep), some (.int cut), some (.int en), none, none, none, none, none, none] = some (.bl (decide (at_ < cut))) := rfl
    have x2 : rOp2 fLt (rVar 3) (rVar 4) [some X, some (.int at_), some (.int deep), some (.int cut), some (.int en), none, none, none, none, none, none] = some (.bl (decide (cut < en))) := rfl
    unfold jcs
    rw [x1, decide_eq_true h1, x2, decide_eq_true h2]
  (delta jgt; apply jcz (Nat.le_of_ble_eq_true rfl) <;> (repeat' (first | wide_open with (1, nb_t, nb_f, cp, ch, lp) | fail)))
end
end Q
set_option pp.maxSteps 3000
set_option maxHeartbeats 0
namespace Q
open PySem PySem.Spec PyProof.Rows L2 PySem.W
theorem nm_comp (f : FD) (a b c d e g L : T) {ns : List Nm} (h : ∀ n ∈ ns, nm n) (hl : ns.length ≤ 100) : cLoop [10] (gSlot 10) bYes (jgs f) (nmT ns) [] [some a, some b, some c, some d, some e, some g, some L, none, none, none, none] = .ok (.lst true (ns.map fun _ => T.bl true), [some a, some b, some c, some d, some e, some g, some L, none, none, none, none]) := by
  refine jnf (fun n : Nm => sT n) (fun _ => .bl true) (by rfl) ns (by omega) fun q hq => ?_
  have e1 : jbr [sT q] = .ok (.bl true) [] := nm_ok (h q hq)
  refine ⟨[some a, some b, some c, some d, some e, some g, some L, none, none, none, some (sT q)], [some a, some b, some c, some d, some e, some g, some L, none, none, none, some (sT q)], rfl, ?_, rfl⟩
  have fx : (sT q).fr = true := rfl
  generalize sT q = Y at e1 fx ⊢
  (delta jgs; (repeat' (first | wide_open with (1, nb_t, nb_f) | fail)))
theorem all_tr6 {α : Type} (l : List α) : fAll [.lst true (l.map fun _ => T.bl true)] = some (.bl true) := by
  have b : je6 (l.map fun _ => T.bl true) = some (l.map fun _ => true) := by
    induction l with
    | nil => rfl
    | cons a l ih => rw [List.map_cons, je6, ih]; rfl
  show (je6 (l.map fun _ => T.bl true)).map (fun bs => T.bl (bs.all id)) = _
  rw [b]
  simp
theorem ns_free {ns : List Nm} (h : NsOk ns) {c : Nat} (hc : c < 97 ∨ 122 < c) (hs : c ≠ 32) : c ∉ TL.joinL [32] ns := jov hs fun p hp => jf5 (h.nm p hp) hc
theorem jpb (xs : List Nm) {i : Nat} (hi : i < xs.length) : TL.joinL [32] xs = TL.joinL [32] (xs.take i) ++ sep6 i ++ xs[i] ++ tl_ 32 (xs.drop (i + 1)) := by
  have e : xs = xs.take i ++ xs[i] :: xs.drop (i + 1) := by rw [← List.drop_eq_getElem_cons hi, List.take_append_drop]
  have g : ∀ (a : List Nm) (w : Nm) (r : List Nm), TL.joinL [32] (a ++ w :: r) = TL.joinL [32] a ++ sep6 a.length ++ w ++ tl_ 32 r := fun a w r => by
    cases a with
    | nil => simp [jbi, sep6, TL.joinL]
    | cons x a => rw [List.cons_append, jbi, jbi, tl_app, jho]; simp [sep6]
  conv => lhs; rw [e]
  rw [g, List.length_take, Nat.min_eq_left (by omega)]
theorem jli : ∀ {d : Nat} (k : Nat) {t : T} {x : Nm}, d ≤ 3 → TR d t x → ∀ (pre post : Nm) (deep : Int), deep + d ≤ 4 → (pre ++ x ++ post).length ≤ 100000 →
    jc3 (k + d) [sT (pre ++ x ++ post), .int (pre.length : Int), .int deep] = .ok (.tup [t, .int ((pre.length + x.length : Nat) : Int)]) []
  | d + 1, k, t, x, hd, ⟨g, ns, ks, h1, h2, h3, h4, h5, h6⟩, pre, post, deep, hdp, hl => by
    have l0 := nm_len h1
    have lj := ns_len h2
    have n1 := h2.l1
    have n3 := h2.l3
    have fk := jm0 h4
    obtain ⟨J, hJ⟩ : ∃ J, J = TL.joinL [32] ns := ⟨_, rfl⟩
    obtain ⟨X, hX⟩ : ∃ X, X = pre ++ x ++ post := ⟨_, rfl⟩
    obtain ⟨KJ, hKJ⟩ : ∃ KJ, KJ = TL.joinL [32] (ks.map (·.2)) := ⟨_, rfl⟩
    have ex : x = g ++ [91] ++ J ++ [93, 40] ++ KJ ++ [41] := by rw [h6, hJ, hKJ]; rfl
    have hX2 : X = pre ++ g ++ [91] ++ (J ++ [93, 40] ++ KJ ++ [41] ++ post) := by rw [hX, ex]; simp
    have hX3 : X = pre ++ (g ++ [91] ++ J) ++ [93, 40] ++ (KJ ++ [41] ++ post) := by rw [hX, ex]; simp
    have hlX : X.length ≤ 100000 := by rw [hX]; exact hl
    have xl : X.length = pre.length + g.length + 1 + J.length + 2 + KJ.length + 1 + post.length := by rw [hX2]; simp; omega
    have f1 : fFind [sT X, .str "[", .int (pre.length : Int)] = some (.int ((pre.length + g.length : Nat) : Int)) := by
      show some (T.int (Txt.find3 (SX.S X) (SX.S [91]) _)) = _
      rw [hX2, find_ok (c := 91) (b' := []) rfl (jf5 h1 (.inl (by decide)))]
    have f2 : fFind [sT X, .str "](", .int (pre.length : Int)] = some (.int ((pre.length + (g ++ [91] ++ J).length : Nat) : Int)) := by
      show some (T.int (Txt.find3 (SX.S X) (SX.S [93, 40]) _)) = _
      rw [hX3, find_ok (c := 93) (b' := [40]) rfl]
      intro z
      simp only [List.mem_append, List.mem_singleton] at z
      rcases z with (z | z) | z
      · exact jf5 h1 (.inl (by decide)) z
      · exact absurd z (by decide)
      · rw [hJ] at z; exact ns_free h2 (.inl (by decide)) (by decide) z
    obtain ⟨at_, hat⟩ : ∃ i : Int, i = (pre.length : Int) := ⟨_, rfl⟩
    obtain ⟨cut, hcut⟩ : ∃ i : Int, i = ((pre.length + g.length : Nat) : Int) := ⟨_, rfl⟩
    obtain ⟨en, hen⟩ : ∃ i : Int, i = ((pre.length + (g ++ [91] ++ J).length : Nat) : Int) := ⟨_, rfl⟩
    rw [← hat, ← hcut] at f1
    rw [← hat, ← hen] at f2
    have hen2 : en = pre.length + g.length + 1 + J.length := by rw [hen]; simp; omega
    have c1 : fCut (sT X) (some at_) (some cut) = some (sT g) := jjw pre g ([91] ++ (J ++ [93, 40] ++ KJ ++ [41] ++ post)) (by rw [hX2]; simp) hlX hat (by rw [hcut]; omega)
    have c2 : fCut (sT X) (some (cut + 1)) (some en) = some (sT J) := jjw (pre ++ g ++ [91]) J ([93, 40] ++ KJ ++ [41] ++ post) (by rw [hX2]; simp) hlX (by rw [hcut]; simp; omega) (by rw [hen2]; simp; omega)
    have sp : jg2 [sT J, .str " "] = some (.lst true (nmT ns)) := by
      rw [hJ]
      exact jja (c := 32) (by decide) (by intro z; rw [z] at n1; simp at n1) (fun p hp => jf5 (h2.nm p hp) (.inl (by decide))) (by omega)
    have ri := rise_ok (jd1 ns) (by simp [nmT]; omega) h2.ri
    have tu : fTuple [.lst false (nmT ns)] = some (.tup (nmT ns)) := if_pos (jd1 ns)
    have lf : jc3 (k + (d + 1)) [sT X, .int at_, .int deep] = fRun 11 [] (jgt (jc3 (k + d))) [sT X, .int at_, .int deep] := rfl
    rw [← hX, ← hat]
    by_cases hk : ks = []
    · have kj : KJ = [] := by rw [hKJ, hk]; rfl
      have c3 : fCut (sT X) (some (en + 2)) (some (en + 2 + 1)) = some (sT [41]) := jjw (pre ++ g ++ [91] ++ J ++ [93, 40]) [41] post (by rw [hX2, kj]; simp) hlX (by rw [hen2]; simp; omega) (by rw [hen2]; simp; omega)
      have r := ta_leaf (jc3 (k + d)) (sT X) (sT g) (sT J) (sT [41]) (nmT ns) _ at_ cut en deep rfl (by omega) f1 f2 (by omega) (by omega) c1 rfl rfl (nm_ok h1) c2 sp (jd1 ns) (jf4 ns) (nm_comp _ _ _ _ _ _ _ _ h2.nm (by omega)) (all_tr6 ns) ri c3 tu rfl
      rw [lf, r, h5, hk]
      have : en + 2 + 1 = ((pre.length + x.length : Nat) : Int) := by rw [hen2, ex, kj]; simp; omega
      rw [this]
      rfl
    · have hkn : ks.length = ns.length := h3.resolve_left hk
      have l3 : ∀ q ∈ ks, q.2.length ≤ 689 := fun q hq => Nat.le_trans (h4 q hq).len (trL_le (by omega))
      obtain ⟨P0, hP0⟩ : ∃ P0, P0 = pre ++ g ++ [91] ++ J ++ [93, 40] := ⟨_, rfl⟩
      have hXP : X = P0 ++ KJ ++ [41] ++ post := by rw [hX2, hP0]; simp
      have lP : (P0.length : Int) = en + 2 := by rw [hP0, hen2]; simp; omega
      have kl : (ks.map (·.2)).length = ks.length := by simp
      obtain ⟨c0, r0, hc0, low0⟩ : ∃ c r, KJ = c :: r ∧ c ≠ 41 := by
        cases ks with
        | nil => exact absurd rfl hk
        | cons q qs =>
          have tq := h4 q List.mem_cons_self
          cases d with
          | zero => exact tq.elim
          | succ d =>
            obtain ⟨g', ns', ks', b1, b2, b3, b4, b5, b6⟩ := tq
            have lg := nm_len b1
            cases hg : g' with
            | nil => rw [hg] at lg; simp at lg
            | cons c r =>
              refine ⟨c, r ++ [91] ++ TL.joinL [32] ns' ++ [93, 40] ++ TL.joinL [32] (ks'.map (·.2)) ++ [41] ++ tl_ 32 (qs.map (·.2)), ?_, fun z => ?_⟩
              · rw [hKJ, List.map_cons, jbi, b6, hg]; simp [trX]
              · have : (41 : Nat) ∈ g' := by rw [hg, z]; exact List.mem_cons_self
                exact jf5 b1 (.inl (by decide)) this
      have c3 : fCut (sT X) (some (en + 2)) (some (en + 2 + 1)) = some (sT [c0]) := jjw P0 [c0] (r0 ++ [41] ++ post) (by rw [hXP, hc0]; simp) hlX (by omega) (by simp; omega)
      have e3 : fEq [sT [c0], .str ")"] = some (.bl false) := by
        show some (T.bl (SX.S [c0] == SX.S [41])) = _
        rw [SX.S_beq_eq, decide_eq_false (by simpa using low0)]
      obtain ⟨L, hL⟩ : ∃ L : Int, L = ns.length := ⟨_, rfl⟩
      have ln : fLen [.lst false (nmT ns)] = some (.int L) := by rw [hL]; exact jlg _ _
      obtain ⟨ρ, lp1, lp2⟩ := jfk (g := gSlot 8) (b := jfs (jc3 (k + d))) (ts := intsT 1 L.toNat) (n := 0)
        (ρ := [some (sT X), some (.int (en + 2)), some (.int deep), some (.int cut), some (.int en), some (sT g), some (.lst false (nmT ns)), some (.lst true []), none, none, none])
        (I := fun i ρ => ρ = [some (sT X), some (.int ((P0 ++ TL.joinL [32] ((ks.take i).map (·.2)) ++ sep6 i).length : Nat)), some (.int deep), some (.int cut), some (.int en), some (sT g), some (.lst false (nmT ns)), some (.lst true ((ks.take i).map (·.1))), none, none, none]) (fun i ρ u _ exx e => by
          subst e
          obtain ⟨hi, N, hN, rfl⟩ := jgc (by simpa using exx)
          have hi2 : i < ks.length := by omega
          have m := List.getElem_mem hi2
          have hti := h4 ks[i] m
          have jt := jpb (ks.map (·.2)) (i := i) (by simpa using hi2)
          rw [← hKJ, List.getElem_map, ← List.map_take, ← List.map_drop] at jt
          obtain ⟨PI, hPI⟩ : ∃ PI, PI = P0 ++ TL.joinL [32] ((ks.take i).map (·.2)) ++ sep6 i := ⟨_, rfl⟩
          have xi : X = PI ++ ks[i].2 ++ (tl_ 32 ((ks.drop (i + 1)).map (·.2)) ++ [41] ++ post) := by rw [hXP, jt, hPI]; simp
          have cl := jli k (by omega) hti PI (tl_ 32 ((ks.drop (i + 1)).map (·.2)) ++ [41] ++ post) (deep + 1) (by omega) (by rw [← xi]; exact hlX)
          rw [← xi] at cl
          rw [← hPI]
          have ap : jde (.lst true ((ks.take i).map (·.1))) [ks[i].1] = some (.non, .lst true ((ks.take i).map (·.1) ++ [ks[i].1])) := eo_ap (by simp; omega)
          obtain ⟨b, s, nb, e1, e2, ix, ct, e5⟩ : ∃ (b : Bool) (s : Nat) (nb : Int), fEq [.int N, .int L] = some (.bl b) ∧ fInt [.bl b] = some (.int nb) ∧ fIx [.lst true [.str " ", .str ")"], .int nb] = some (sT [s]) ∧
              fCut (sT X) (some ((PI.length + ks[i].2.length : Nat) : Int)) (some (((PI.length + ks[i].2.length : Nat) : Int) + 1)) = some (sT [s]) ∧ fEq [sT [s], sT [s]] = some (.bl true) := by
            by_cases z : i + 1 = ks.length
            · refine ⟨true, 41, 1, ?_, rfl, at_1, ?_, jg9 _⟩
              · rw [jlb, decide_eq_true (by omega)]
              · have dn : ks.drop (i + 1) = [] := List.drop_eq_nil_of_le (by omega)
                exact jjw (PI ++ ks[i].2) [41] post (by rw [xi, dn]; simp [tl_]) hlX (by simp) (by simp)
            · refine ⟨false, 32, 0, ?_, rfl, at_0, ?_, jg9 _⟩
              · rw [jlb, decide_eq_false (by omega)]
              · have dn : ks.drop (i + 1) = ks[i + 1]'(by omega) :: ks.drop (i + 2) := List.drop_eq_getElem_cons (by omega)
                exact jjw (PI ++ ks[i].2) [32] ((ks[i + 1]'(by omega)).2 ++ tl_ 32 ((ks.drop (i + 2)).map (·.2)) ++ [41] ++ post) (by rw [xi, dn, List.map_cons, jho]; simp) hlX (by simp) (by simp)
          have st := ta_step (jc3 (k + d)) (sT X) (sT g) (.lst false (nmT ns)) (sT [s]) (sT [s]) ks[i].1 (.int cut) (.int en) ((ks.take i).map (·.1)) (PI.length : Int) _ deep N L nb b rfl hti.fr (fz6_fr _ hti.fr) cl ap ct ln e1 e2 ix rfl e5
          refine ⟨_, _, rfl, .inl st, ?_⟩
          have e7 : ks.take (i + 1) = ks.take i ++ [ks[i]] := by rw [List.take_succ, List.getElem?_eq_getElem hi2]; rfl
          rw [e7, List.map_append, List.map_append]
          have e8 : (((PI.length + ks[i].2.length : Nat) : Int) + 1) = ((P0 ++ TL.joinL [32] ((ks.take i).map (·.2) ++ [ks[i]].map (·.2)) ++ sep6 (i + 1)).length : Nat) := by
            rw [show [ks[i]].map (·.2) = [ks[i].2] from rfl, jlh, hPI, List.length_map, List.length_take, Nat.min_eq_left (by omega)]
            simp [sep6]
            omega
          rw [e8]
          rfl) (by
            have : ((P0 ++ TL.joinL [32] (List.map (·.2) (ks.take 0)) ++ sep6 0).length : Int) = en + 2 := by simp [TL.joinL, sep6]; omega
            show _ = [some (sT X), some (.int ((P0 ++ TL.joinL [32] (List.map (·.2) (ks.take 0)) ++ sep6 0).length : Nat)), some (.int deep), some (.int cut), some (.int en), some (sT g), some (.lst false (nmT ns)), some (.lst true []), none, none, none]
            rw [this])
      have len : (intsT 1 L.toNat).length = ks.length := by simp [intsT, hL, hkn]
      rw [len, Nat.zero_add, List.take_length] at lp2
      subst lp2
      have r := ta_node (jc3 (k + d)) (sT X) (sT g) (sT J) (sT [c0]) (nmT ns) _ at_ cut en deep rfl (by omega) f1 f2 (by omega) (by omega) c1 rfl rfl (nm_ok h1) c2 sp (jd1 ns) (jf4 ns) (nm_comp _ _ _ _ _ _ _ _ h2.nm (by omega)) (all_tr6 ns) ri c3 tu e3 fk ln (jaf (by omega) (by omega)) lp1
      rw [lf, r, h5]
      have : ((P0 ++ TL.joinL [32] (ks.map (·.2)) ++ sep6 ks.length).length : Int) = ((pre.length + x.length : Nat) : Int) := by
        rw [← hKJ, ex]
        have : ks.length ≠ 0 := by omega
        simp [sep6, this]
        rw [hP0]
        simp
        omega
      rw [this]
end Q
set_option pp.maxSteps 3000
set_option maxHeartbeats 0
namespace Q
open PySem PySem.Spec PyProof.Rows L2 PySem.W
theorem leN_T (a b : Nm) : leN a b = T.le (sT a) (sT b) := (le_sT a b).symm
theorem leN_an6 {a b : Nm} (h1 : leN a b = true) (h2 : leN b a = true) : a = b := by
  unfold leN at *
  simp only [Bool.not_eq_true', decide_eq_false_iff_not] at *
  exact List.le_antisymm (as := a) (bs := b) h1 h2
theorem jm1 : ∀ {l : List Nm}, l.Pairwise (fun a b => leN a b = true) → l.Nodup → Ris6 (nmT l)
  | [], _, _ => trivial
  | [_], _, _ => trivial
  | a :: b :: l, pw, nd => by
    have pw1 := List.pairwise_cons.mp pw
    have nd1 := List.nodup_cons.mp nd
    refine ⟨?_, jm1 pw1.2 nd1.2⟩
    show fLtA [sT a, sT b] = _
    rw [nm_lt]
    have h : leN a b = true := pw1.1 b List.mem_cons_self
    cases q : dataLt (sT a).toD (sT b).toD with
    | true => rfl
    | false =>
      have h2 : leN b a = true := by rw [leN_T]; show (!dataLt (sT a).toD (sT b).toD) = true; rw [q]; rfl
      exact absurd (by rw [leN_an6 h h2]; exact List.mem_cons_self) nd1.1
section
variable (f : FD) (P0 P1 P2 P3 P4 P5 G : T) (NS SN : List T) (dp w c2 r : Int) {NA : List T} (fNA : frs NA = true) (a1 : jab [P0, .int 3] = .ok (.int w) [P1]) (a2 : jbn [P1, .int 2] = .ok (.lst true NA) [P2]) (a3 : jab [P2, .int 2] = .ok (.int c2) [P3]) (ix : fIx [.lst true NA, .int c2] = some G) (fG : G.fr = true)
  (a4 : jab [P3, .int 3] = .ok (.int r) [P4]) (a5 : jbn [P4, .int (1 + r)] = .ok (.lst true NS) [P5]) (so : jk2 [.lst true NS] = some (.lst true SN)) (fS : frs SN = true) (zS : fzs SN = SN)
include a1 a2 a3 ix fG a4 a5 so fS zS
theorem td_leaf (c d : Bool) (e1 : fEq [.int dp, .int 1] = some (.bl c)) (e2 : fEq [.int w, .int 0] = some (.bl d)) (h : c = true ∨ d = true) : fRun 6 [0] (jcx f) [P0, .int dp] = .ok (.tup [G, .tup SN, .tup []]) [P5] := by
  have ct : fCat [.int 1, .int r] = some (.int (1 + r)) := rfl
  have tu : fTuple [.lst true SN] = some (.tup SN) := if_pos fS
  cases c with
  | true => (delta jcx; apply jcz (Nat.le_of_ble_eq_true rfl) <;> (repeat' (first | wide_open with (1, nb_t, nb_f) | fail)))
  | false =>
    obtain rfl : d = true := by simpa using h
    (delta jcx; apply jcz (Nat.le_of_ble_eq_true rfl) <;> (repeat' (first | wide_open with (1, nb_t, nb_f) | fail)))
theorem td_node (e1 : fEq [.int dp, .int 1] = some (.bl false)) (e2 : fEq [.int w, .int 0] = some (.bl false)) {P6 : T} {KS : List T} (fK : frs KS = true)
    (cp : cLoop [5] (gSlot 5) bYes (jdh f) SN [] [some P5, some (.int dp), some (.int w), some G, some (.tup SN), none] = .ok (.lst true KS, [some P6, some (.int dp), some (.int w), some G, some (.tup SN), none])) : fRun 6 [0] (jcx f) [P0, .int dp] = .ok (.tup [G, .tup SN, .tup KS]) [P6] := by
  have ct : fCat [.int 1, .int r] = some (.int (1 + r)) := rfl
  have tu : fTuple [.lst true SN] = some (.tup SN) := if_pos fS
  have tu2 : fTuple [.lst true KS] = some (.tup KS) := if_pos fK
  (delta jcx; apply jcz (Nat.le_of_ble_eq_true rfl) <;> (repeat' (first | wide_open with (1, nb_t, nb_f, cp) | fail)))
end
theorem td_comp (f : FD) (P0 P1 t w G SN N : T) (dp : Int) (cl : f [P0, .int (dp - 1)] = .ok t [P1]) : jdh f [some P0, some (.int dp), some w, some G, some SN, some N] = .ok (t, [some P1, some (.int dp), some w, some G, some SN, some N]) := by
  have s : fSub [.int dp, .int 1] = some (.int (dp - 1)) := rfl
  (delta jdh; (repeat' (first | wide_open with (1, nb_t, nb_f) | fail)))
def tdC : Nat → Int
  | 0 => 0
  | d + 1 => 40 + 3 * tdC d
theorem jlj : ∀ (d k : Nat) (p : Pen) {n : Int}, 1 ≤ d → d ≤ 3 → pT n p → n + 3000 * (d : Int) < 67108864 → ∃ (t : T) (x : Nm) (p' : Pen), jay (k + d) [p.t, .int (d : Int)] = .ok t [p'.t] ∧ TR d t x ∧ pT (n + tdC d) p'
  | d + 1, k, p, n, h1, hd, h, hn => by
    have tp : 0 ≤ tdC d := by
      clear h h1 hd hn
      induction d with
      | zero => exact Int.le_refl _
      | succ d ih => show 0 ≤ 40 + 3 * tdC d; omega
    have tb : tdC d ≤ 300 := by
      have : d = 0 ∨ d = 1 ∨ d = 2 := by omega
      rcases this with rfl | rfl | rfl <;> decide
    obtain ⟨w, p1, a1, a2, a3, a4⟩ := jfb p h (by omega) 3 (by omega) (by omega)
    obtain ⟨na, p2, b1, b2, b3, _, b5⟩ := jl6 p1 a4 (by omega) 2 (by omega) (by omega)
    obtain ⟨c, p3, c1, c2, c3, c4⟩ := jfb p2 b5 (by omega) 2 (by omega) (by omega)
    obtain ⟨g, hg, ix⟩ := jo9 (ls := na) c2 (by rw [b2]; omega)
    obtain ⟨r, p4, d1, d2, d3, d4⟩ := jfb p3 c4 (by omega) 3 (by omega) (by omega)
    obtain ⟨ls, p5, e1, e2, e3, e4, e5⟩ := jl6 p4 d4 (by omega) (1 + r) (by omega) (by omega)
    have so := sorted_nm (o := true) (l := ls) (by omega)
    have sl : (sortN ls).length = ls.length := (ji8 ls).length_eq
    have nsok : NsOk (sortN ls) := ⟨fun x hx => e3 x ((ji8 ls).mem_iff.mp hx), by omega, by omega, jm1 (sortN_pw ls) ((ji8 ls).nodup_iff.mpr e4)⟩
    have q1 : fEq [.int ((d + 1 : Nat) : Int), .int 1] = some (.bl (decide (((d + 1 : Nat) : Int) = 1))) := jlb
    have q2 : fEq [.int w, .int 0] = some (.bl (decide (w = 0))) := jlb
    have gn := b3 g hg
    have leaf : ((d + 1 : Nat) : Int) = 1 ∨ w = 0 → ∃ (t : T) (x : Nm) (p' : Pen), jay (k + (d + 1)) [p.t, .int ((d + 1 : Nat) : Int)] = .ok t [p'.t] ∧ TR (d + 1) t x ∧ pT (n + tdC (d + 1)) p' := fun hh => by
      refine ⟨trT g (sortN ls) [], trX g (sortN ls) [], p5, ?_, ⟨g, sortN ls, [], gn, nsok, .inl rfl, (fun _ z => nomatch z), rfl, rfl⟩, e5.1, ?_⟩
      · show fRun 6 [0] (jcx (jay (k + d))) [p.t, .int ((d + 1 : Nat) : Int)] = _
        exact td_leaf _ _ _ _ _ _ _ _ _ _ _ w c r a1 b1 c1 (ix true) rfl d1 e1 so (jd1 _) (jf4 _) _ _ q1 q2 (hh.imp (fun z => decide_eq_true z) (fun z => decide_eq_true z))
      · have := e5.2
        show _ ≤ n + (40 + 3 * tdC d)
        omega
    by_cases hh : ((d + 1 : Nat) : Int) = 1 ∨ w = 0
    · exact leaf hh
    · rw [not_or] at hh
      rw [decide_eq_false hh.1] at q1
      rw [decide_eq_false hh.2] at q2
      obtain ⟨acc, ρ, g1, q, ks, g2, g3, g4, g5, g6⟩ := jhn (own := [5]) (g := gSlot 5) (t := bYes) (d := jdh (jay (k + d))) (xs := nmT (sortN ls)) (acc := []) (n := 0) (ρ := [some p5.t, some (.int ((d + 1 : Nat) : Int)), some (.int w), some (sT g), some (.tup (nmT (sortN ls))), none])
        (I := fun i acc ρ => ∃ (q : Pen) (ks : List (T × Nm)), ρ = [some q.t, some (.int ((d + 1 : Nat) : Int)), some (.int w), some (sT g), some (.tup (nmT (sortN ls))), none] ∧ acc = ks.map (·.1) ∧ ks.length = i ∧ (∀ k ∈ ks, TR d k.1 k.2) ∧ (i ≤ 3 → pT (n + 30 + tdC d * i) q)) (fun i acc ρ x _ exx ⟨q, ks, h1, h2, h3, h4, h5⟩ => by
          subst h1
          subst h2
          have hi : i < (nmT (sortN ls)).length := by
            have := (List.getElem?_eq_some_iff.mp (by simpa using exx)).1
            simpa [nmT] using this
          have hi3 : i < 3 := by simp [nmT] at hi; omega
          obtain ⟨nn, rfl⟩ : ∃ nn : Nm, x = sT nn := by
            have : x ∈ nmT (sortN ls) := List.mem_of_getElem? exx
            obtain ⟨nn, _, e⟩ := List.mem_map.mp this
            exact ⟨nn, e.symm⟩
          have hp := h5 (by omega)
          obtain ⟨t, y, q2, m1, m2, m3⟩ := jlj d k q (by omega) (by omega) hp (by
            have : tdC d * i ≤ 300 * 3 := Int.mul_le_mul tb (by omega) (by omega) (by omega)
            omega)
          have cl := td_comp (jay (k + d)) q.t q2.t t (.int w) (sT g) (.tup (nmT (sortN ls))) (sT nn) ((d + 1 : Nat) : Int) (by rw [show ((d + 1 : Nat) : Int) - 1 = (d : Int) by omega]; exact m1)
          refine ⟨_, _, rfl, .inr ⟨rfl, by rw [sizeLine_eq]; simp; omega, t, _, cl, q2, ks ++ [(t, y)], rfl, by simp, by simp [h3], fun z hz => ?_, fun _ => ⟨m3.1, ?_⟩⟩⟩
          · rcases List.mem_append.mp hz with z1 | z1
            · exact h4 z z1
            · rw [List.mem_singleton.mp z1]; exact m2
          · have := m3.2
            rw [show ((i + 1 : Nat) : Int) = (i : Int) + 1 by omega, Int.mul_add, Int.mul_one]
            omega) ⟨p5, [], rfl, rfl, rfl, (fun _ z => nomatch z), fun _ => ⟨e5.1, by have := e5.2; simp only [Int.natCast_zero, Int.mul_zero] at *; omega⟩⟩
      subst g2
      subst g3
      have len : (nmT (sortN ls)).length = (sortN ls).length := by simp [nmT]
      rw [len, Nat.zero_add] at g4 g6
      have gp := g6 (by omega)
      refine ⟨trT g (sortN ls) (ks.map (·.1)), trX g (sortN ls) (ks.map (·.2)), q, ?_, ⟨g, sortN ls, ks, gn, nsok, .inr g4, g5, rfl, rfl⟩, gp.1, ?_⟩
      · show fRun 6 [0] (jcx (jay (k + d))) [p.t, .int ((d + 1 : Nat) : Int)] = _
        exact td_node _ _ _ _ _ _ _ _ _ _ _ w c r a1 b1 c1 (ix true) rfl d1 e1 so (jd1 _) (jf4 _) q1 q2 (jm0 g5) g1
      · have := gp.2
        show _ ≤ n + (40 + 3 * tdC d)
        have m : tdC d * ((sortN ls).length : Int) ≤ tdC d * 3 := Int.mul_le_mul_of_nonneg_left (by omega) tp
        omega
end Q
set_option pp.maxSteps 3000
set_option maxHeartbeats 0
namespace Q
open PySem PySem.Spec PyProof.Rows L2 PySem.W
theorem Sm.tr : ∀ {d : Nat} {t : T} {x : Nm}, d ≤ 3 → TR d t x → Sm t (trL d * 2) (2 * d)
  | d + 1, t, x, hd, ⟨g, ns, ks, h1, h2, h3, h4, h5, h6⟩ => by
    have n3 := h2.l3
    have l4 : ks.length ≤ 3 := by
      rcases h3 with rfl | h3
      · simp
      · omega
    rw [h5]
    have s1 : Sms (nmT ns) (ns.length * (8 + 1)) 0 := Sms.map (f := sT) fun n hn => Sm.nm (h2.nm n hn)
    have s2 : Sms (ks.map (·.1)) (ks.length * (trL d * 2 + 1)) (2 * d) := Sms.map (f := fun q : T × Nm => q.1) fun q hq => Sm.tr (by omega) (h4 q hq)
    have b1 : ns.length * (8 + 1) ≤ 27 := by omega
    have b2 : ks.length * (trL d * 2 + 1) ≤ 3 * (trL d * 2 + 1) := Nat.mul_le_mul_right _ l4
    have g1 : Sm (sT g) 8 (2 * d + 1) := Sm.nm h1
    have t1 : Sm (.tup (nmT ns)) 27 (2 * d + 1) := (Sm.tup s1).mono b1 (by omega)
    have t2 : Sm (.tup (ks.map (·.1))) (3 * (trL d * 2 + 1)) (2 * d + 1) := (Sm.tup s2).mono b2 (by omega)
    refine (Sm.tup (.cons g1 (.cons t1 (.cons t2 .nil)))).mono ?_ (by omega)
    show _ ≤ (50 + 3 * (trL d + 1)) * 2
    omega
theorem tr_repr {t : T} {x : Nm} (h : TR 3 t x) : fRepr [t] = some (.str (rp t)) := (Sm.tr (by decide) h).repr (by decide) (by decide)
theorem P60_250 : 10 ^ 60 ≤ 2 ^ 250 := by decide
theorem Sm.kt {o : Bool} {a : Int} {ps : List (Nm × Int)} (h1 : -P60 < a) (h2 : a < P60) (hl : ps.length ≤ 20) (h : ∀ p ∈ ps, PcOk p) : Sm (kT o a ps) 400 3 := by
  have sa : Sm (.int a) 0 2 := Sm.int (Nat.lt_of_lt_of_le (show a.natAbs < 10 ^ 60 by
    by_cases z : 0 ≤ a
    · have := lt60 z h2; rwa [show a.natAbs = a.toNat by omega]
    · have := lt60 (i := -a) (by omega) (by omega); rwa [show a.natAbs = (-a).toNat by omega]) P60_250)
  have s1 : Sms (ps.map pcX) (ps.length * (10 + 1)) 1 := Sms.map (f := pcX) fun p hp => by
    have q : Sm (.int p.2) 0 0 := Sm.int (Nat.lt_of_lt_of_le (show p.2.natAbs < 100 by have := (h p hp).2.1; have := (h p hp).2.2; omega) (by decide))
    exact (Sm.tup (.cons (Sm.nm (h p hp).1) (.cons q .nil))).mono (by omega) (by omega)
  have b1 : ps.length * (10 + 1) ≤ 20 * 11 := Nat.mul_le_mul_right _ hl
  exact (Sm.tup (.cons (Sm.word (d := 2) (z := "known") (by decide) (by decide)) (.cons sa (.cons (Sm.lst s1) .nil)))).mono (by omega) (by omega)
theorem Sm.ft {o : Bool} {ss : List Stp6} (hl : ss.length ≤ 20) (h : ∀ s ∈ ss, TieOk s.1) : Sm (fT6 o ss) 600 4 := by
  have s1 : Sms (ss.map stT) (ss.length * (20 + 1)) 2 := Sms.map (f := stT) fun s hs => by
    have t := h s hs
    have q : Sm (tieT s.1) 18 1 := (Sm.tup (.cons (Sm.nm (d := 0) (jne _ t.1)) (.cons (Sm.nm t.2) .nil))).mono (by omega) (by omega)
    exact (Sm.tup (.cons q (.cons Sm.bl .nil))).mono (by omega) (by omega)
  have b1 : ss.length * (20 + 1) ≤ 20 * 21 := Nat.mul_le_mul_right _ hl
  exact (Sm.tup (.cons (Sm.word (d := 3) (z := "free") (by decide) (by decide)) (.cons (Sm.lst s1) .nil))).mono (by omega) (by omega)
theorem me_K (ρ : Env) (a b : T) (L : List T) (h : rVar 8 ρ = some (.tup [a, b, .lst true L])) (hl : L.length < 4000) : jcy false 8 jde (pIx 8 (pName 8) (rOp1 fNeg (rC (.int 1)))) [rC .non] ρ = .ok (.non, ρ.set 8 (some (.tup [a, b, .lst true (L ++ [.non])]))) := by
  have p0 : pIx 8 (pName 8) (rOp1 fNeg (rC (.int 1))) ρ = .ok ([.int (-1)], ρ) := by
    have : pName 8 ρ = .ok ([], ρ) := by unfold pName; rw [h]
    unfold pIx
    rw [this]
    show (match some (T.int (-1)), rVar 8 ρ with | some k, some t => if (pathT t ([] ++ [k])).isSome = true then R.ok (([] : List T) ++ [k], ρ) else .bad | _, _ => .bad) = _
    rw [h]
    rfl
  unfold jcy
  rw [p0]
  have a1 : atK false 8 [.int (-1)] ρ = true := by unfold atK; rw [h]; rfl
  show (if atK false 8 [.int (-1)] ρ = true then (match List.mapM (fun r : Dr => r ρ) [rC .non] with | some ts => if frs ts = true then jbp 8 jde [.int (-1)] ts ρ else .bad | none => .bad) else .bad) = _
  rw [if_pos a1]
  show jbp 8 jde [.int (-1)] [.non] ρ = _
  unfold jbp
  rw [h]
  show (match jde (.lst true L) [.non] with | some (res, u') => (match putP u' (.tup [a, b, .lst true L]) [.int (-1)] with | some t' => R.ok (res, ρ.set 8 (some t')) | none => .bad) | none => .bad) = _
  rw [eo_ap hl]
  rfl
theorem me_F (ρ : Env) (a : T) (L : List T) (h : rVar 8 ρ = some (.tup [a, .lst true L])) (hl : L.length < 4000) : jcy false 8 jde (pIx 8 (pName 8) (rOp1 fNeg (rC (.int 1)))) [rC .non] ρ = .ok (.non, ρ.set 8 (some (.tup [a, .lst true (L ++ [.non])]))) := by
  have p0 : pIx 8 (pName 8) (rOp1 fNeg (rC (.int 1))) ρ = .ok ([.int (-1)], ρ) := by
    have : pName 8 ρ = .ok ([], ρ) := by unfold pName; rw [h]
    unfold pIx
    rw [this]
    show (match some (T.int (-1)), rVar 8 ρ with | some k, some t => if (pathT t ([] ++ [k])).isSome = true then R.ok (([] : List T) ++ [k], ρ) else .bad | _, _ => .bad) = _
    rw [h]
    rfl
  unfold jcy
  rw [p0]
  have a1 : atK false 8 [.int (-1)] ρ = true := by unfold atK; rw [h]; rfl
  show (if atK false 8 [.int (-1)] ρ = true then (match List.mapM (fun r : Dr => r ρ) [rC .non] with | some ts => if frs ts = true then jbp 8 jde [.int (-1)] ts ρ else .bad | none => .bad) else .bad) = _
  rw [if_pos a1]
  show jbp 8 jde [.int (-1)] [.non] ρ = _
  unfold jbp
  rw [h]
  show (match jde (.lst true L) [.non] with | some (res, u') => (match putP u' (.tup [a, .lst true L]) [.int (-1)] with | some t' => R.ok (res, ρ.set 8 (some t')) | none => .bad) | none => .bad) = _
  rw [eo_ap hl]
  rfl
theorem lw1 (S0 P Tu f t t' J : T) (z x : Str) (ff : f.fr = true) (tt : jct [f] = .ok (.str x) []) (rd : jcu [.str x] = .ok t []) (it : fIsi .tuple [t] = some (.bl true)) (rp : fRepr [t] = some (.str z))
    (me : ∀ ρ : Env, rVar 8 ρ = some t → jcy false 8 jde (pIx 8 (pName 8) (rOp1 fNeg (rC (.int 1)))) [rC .non] ρ = .ok (.non, ρ.set 8 (some t'))) :
    jgu [some S0, some P, some Tu, some f, some (.str z), some (.str x), some J, none, none, none] = .nx [some S0, some P, some Tu, some f, some (.str z), some (.str x), none, none, none, none] := by
  have me : jcy false 8 jde (pIx 8 (pName 8) (rOp1 fNeg (rC (.int 1)))) [rC .non] [some S0, some P, some Tu, some f, some (.str z), some (.str x), some J, some (.str x), some t, none] = .ok (.non, [some S0, some P, some Tu, some f, some (.str z), some (.str x), some J, some (.str x), some t', none]) := me _ rfl
  have i1 : fIsi .str [.str x] = some (.bl true) := rfl
  have n1 : fNe [.str x, .str x] = some (.bl false) := jg8 _
  have n2 : fNe [.str z, .str z] = some (.bl false) := jg8 _
  (delta jgu; (repeat' (first | wide_open with (1, nb_t, nb_f, me) | fail)))
theorem lw2 (S0 P0 P1 Tu f t0 t : T) (z x : Str) (ff : f.fr = true) (pp : jas [P0] = .ok t0 [P1]) (zf : t0.fz = f) (rp : fRepr [f] = some (.str z)) (lx : jag [f] = .ok (.str x) [])
    (lp : fLoop (gSlot 6) jgu (intsT 0 2) [some S0, some P1, some Tu, some f, some (.str z), some (.str x), none, none, none, none] = .nx [some S0, some P1, some Tu, some f, some (.str z), some (.str x), none, none, none, none]) :
    je2 [some S0, some P0, some Tu, none, none, none, none, none, none, none] = .nx [some S0, some P1, none, none, none, none, none, none, none, none] := by
  have n2 : fNe [.str z, .str z] = some (.bl false) := jg8 _
  (delta je2; (repeat' (first | wide_open with (1, nb_t, nb_f, lp) | fail)))
theorem lw2_ok (S0 Tu : T) (p : Pen) {n : Int} (h : pT n p) (hn : n + 100 < 67108864) : ∃ p' : Pen, je2 [some S0, some p.t, some Tu, none, none, none, none, none, none, none] = .nx [some S0, some p'.t, none, none, none, none, none, none, none, none] ∧ pT (n + 70) p' := by
  obtain ⟨t, f, x, p1, a1, a2, a3⟩ := paper_ok p h hn
  have key : ∃ (z : Str) (t' : T), t.fz = f ∧ f.fr = true ∧ jct [f] = .ok (sT x) [] ∧ jag [f] = .ok (sT x) [] ∧ jcu [sT x] = .ok t [] ∧ fIsi .tuple [t] = some (.bl true) ∧ fRepr [f] = some (.str z) ∧ fRepr [t] = some (.str z) ∧
      ∀ ρ : Env, rVar 8 ρ = some t → jcy false 8 jde (pIx 8 (pName 8) (rOp1 fNeg (rC (.int 1)))) [rC .non] ρ = .ok (.non, ρ.set 8 (some t')) := by
    rcases a2 with ⟨a, ps, rfl, rfl, rfl, b1, b2, b3, b4, b5⟩ | ⟨ss, rfl, rfl, rfl, b1, b2, b3⟩
    · have zz : (kT true a ps).fz = kT false a ps := by simp [T.fz, fzs, pcs_fz]
      refine ⟨_, _, zz, by simp [T.fr, frs, jko], told_K b1 b2 b3 b4, ptx_K b1 b2 b3 b4, read_K b1 b2 b3 b4 b5, rfl, (Sm.kt b1 b2 b3 b4).repr, ?_, fun ρ h => me_K ρ _ _ _ h (by simp; omega)⟩
      rw [← rp_fz (kT false a ps), ← repr_fz (kT true a ps), zz, (Sm.kt b1 b2 b3 b4).repr]
      rw [rp_fz]
    · have zz : (fT6 true ss).fz = fT6 false ss := by simp [T.fz, fzs, sts_fz]
      refine ⟨_, _, zz, by simp [T.fr, frs, jma], told_F b1 b2, ptx_F b1 b2, read_F b1 b2 b3, rfl, (Sm.ft b1 b2).repr, ?_, fun ρ h => me_F ρ _ _ h (by simp; omega)⟩
      rw [← repr_fz (fT6 true ss), zz, (Sm.ft b1 b2).repr]
  obtain ⟨z, t', k1, k2, k3, k4, k5, k6, k7, k8, k9⟩ := key
  have st := fun J => lw1 S0 p1.t Tu f t t' J z (SX.S x) k2 k3 k5 k6 k8 k9
  exact ⟨p1, lw2 S0 p.t p1.t Tu f t t z (SX.S x) k2 a1 k1 k7 k4 (el_c rfl (st (.int 0)) (el_c rfl (st (.int 1)) el_n)), a3⟩
theorem lw3 (S0 P Tu t J : T) (z x : Str) (ft : t.fr = true) (tt : jfr [t] = .ok (.str x) []) (rd : jeg [.str x] = .ok t []) (rp : fRepr [t] = some (.str z)) :
    jgv [some S0, some P, some Tu, none, none, some (.str x), some J, none, none, some t] = .nx [some S0, some P, some Tu, none, none, some (.str x), none, none, none, some t] := by
  have i1 : fIsi .str [.str x] = some (.bl true) := rfl
  have n1 : fNe [.str x, .str x] = some (.bl false) := jg8 _
  have n2 : fNe [.str z, .str z] = some (.bl false) := jg8 _
  (delta jgv; (repeat' (first | wide_open with (1, nb_t, nb_f) | fail)))
theorem lw4 (S0 P0 P1 Tu t : T) (x : Str) (ft : t.fr = true) (zt : t.fz = t) (dr : jeb [P0, .int 3] = .ok t [P1]) (lx : jdg [t] = .ok (.str x) [])
    (lp : fLoop (gSlot 6) jgv (intsT 0 2) [some S0, some P1, some Tu, none, none, some (.str x), none, none, none, some t] = .nx [some S0, some P1, some Tu, none, none, some (.str x), none, none, none, some t]) :
    je3 [some S0, some P0, some Tu, none, none, none, none, none, none, none] = .nx [some S0, some P1, none, none, none, none, none, none, none, none] := by
  (delta je3; (repeat' (first | wide_open with (1, nb_t, nb_f, lp) | fail)))
theorem jmb (X t : T) (L : Int) (fX : X.fr = true) (iX : fIsi .str [X] = some (.bl true)) (ft : t.fr = true) (zt : t.fz = t) (ta : jhg [X, .int 0, .int 1] = .ok (.tup [t, .int L]) []) (ln : fLen [X] = some (.int L)) : jeg [X] = .ok t [] := by
  have nd : jbw [.bl true] = .ok .non [] := by (unfold jbw; delta jht; apply jcz (Nat.le_of_ble_eq_true rfl) <;> (repeat' (first | wide_open with (1, nb_t, nb_f) | fail)))
  have e : fEq [.int L, .int L] = some (.bl true) := by rw [jlb]; simp
  have zz : (T.tup [t, .int L]).fz = .tup [t, .int L] := by simp [T.fz, fzs, zt]
  (unfold jeg; delta jjm; apply jcz (Nat.le_of_ble_eq_true rfl) <;> (repeat' (first | wide_open with (1, nb_t, nb_f) | fail)))
theorem lw4_ok (S0 Tu : T) (p : Pen) {n : Int} (h : pT n p) (hn : n + 9000 < 67108864) : ∃ p' : Pen, je3 [some S0, some p.t, some Tu, none, none, none, none, none, none, none] = .nx [some S0, some p'.t, none, none, none, none, none, none, none, none] ∧ pT (n + 600) p' := by
  obtain ⟨t, x, p1, a1, a2, a3⟩ := jlj 3 27 p (by decide) (by decide) h (by omega)
  have xl : x.length ≤ 689 := a2.len
  have tt := jjc 27 (by decide) a2
  have lt := jgq 27 (by decide) a2
  have ta := jli 27 (by decide) a2 [] [] 1 (by decide) (by simp; omega)
  simp only [List.nil_append, List.append_nil, List.length_nil, Nat.zero_add] at ta
  have zt := fz6_fr t a2.fr
  have rd := jmb (sT x) t (x.length : Int) rfl rfl a2.fr zt ta (len_sT (by omega) rfl)
  have st := fun J => lw3 S0 p1.t Tu t J (rp t) (SX.S x) a2.fr tt rd (tr_repr a2)
  refine ⟨p1, lw4 S0 p.t p1.t Tu t (SX.S x) a2.fr zt a1 lt (el_c rfl (st (.int 0)) (el_c rfl (st (.int 1)) el_n)), a3.1, ?_⟩
  have := a3.2
  have : tdC 3 = 520 := rfl
  omega
theorem law_ev76 (S0 P0 P1 P2 : T) (sf : S0.fr = true) (e0 : jel [S0] = .ok P0 []) (l1 : fLoop (gSlot 2) je2 (intsT 0 8) [some S0, some P0, none, none, none, none, none, none, none, none] = .nx [some S0, some P1, none, none, none, none, none, none, none, none])
    (l2 : fLoop (gSlot 2) je3 (intsT 0 4) [some S0, some P1, none, none, none, none, none, none, none, none] = .nx [some S0, some P2, none, none, none, none, none, none, none, none]) : jhh [S0] = .ok (.bl true) [] := by
  (unfold jhh; delta jms; apply jcz (Nat.le_of_ble_eq_true rfl) <;> (repeat' (first | wide_open with (1, nb_t, nb_f, l1, l2) | fail)))
theorem jng : Keeps jhh := by
  intro ns hns
  obtain ⟨e0, h0⟩ := pen0 ns hns
  have sf : (T.lst false (ns.map .int)).fr = true := jg7 ns
  generalize T.lst false (ns.map .int) = S0 at *
  obtain ⟨ρ, l1, q, l2, l3⟩ := jfk (g := gSlot 2) (b := je2) (ts := intsT 0 8) (n := 0) (ρ := [some S0, some (Pen.t ⟨ns, 0, 0⟩), none, none, none, none, none, none, none, none])
    (I := fun i ρ => ∃ q : Pen, ρ = [some S0, some q.t, none, none, none, none, none, none, none, none] ∧ (i ≤ 10 → pT (70 * i) q)) (fun i ρ t _ ex ⟨q, e, h⟩ => by
      subst e
      obtain ⟨hi, J, hJ, rfl⟩ := jgc (by simpa using ex)
      obtain ⟨q2, o1, o2⟩ := lw2_ok S0 (.int J) q (h (by omega)) (by omega)
      exact ⟨_, _, rfl, .inl o1, q2, rfl, fun _ => ⟨o2.1, by have := o2.2; omega⟩⟩) ⟨⟨ns, 0, 0⟩, rfl, fun _ => ⟨h0.1, by have := h0.2; simp only [Int.natCast_zero] at *; omega⟩⟩
  subst l2
  have hq := l3 (by show 0 + 8 ≤ 10; omega)
  obtain ⟨ρ, l4, q2, l5, l6⟩ := jfk (g := gSlot 2) (b := je3) (ts := intsT 0 4) (n := 0) (ρ := [some S0, some q.t, none, none, none, none, none, none, none, none])
    (I := fun i ρ => ∃ q : Pen, ρ = [some S0, some q.t, none, none, none, none, none, none, none, none] ∧ (i ≤ 10 → pT (1000 + 600 * i) q)) (fun i ρ t _ ex ⟨q, e, h⟩ => by
      subst e
      obtain ⟨hi, J, hJ, rfl⟩ := jgc (by simpa using ex)
      obtain ⟨q2, o1, o2⟩ := lw4_ok S0 (.int J) q (h (by omega)) (by omega)
      exact ⟨_, _, rfl, .inl o1, q2, rfl, fun _ => ⟨o2.1, by have := o2.2; omega⟩⟩) ⟨q, rfl, fun _ => ⟨hq.1, by
        have := hq.2
        have e : ((0 + (intsT 0 8).length : Nat) : Int) = 8 := rfl
        rw [e] at this
        simp only [Int.natCast_zero] at *
        omega⟩⟩
  subst l5
  exact law_ev76 S0 _ _ _ sf e0 l1 l4
end Q
set_option pp.maxSteps 300
namespace Q
open PySem PySem.Spec PyProof.Rows L2
abbrev DefI (K : PySem.W.Frag) (x : Str) (st : Stmt) : Prop := ∃ (f : Addr) (fd : FuncData), PySem.W.nsIn K mainGlobals x = some (some (.ref f)) ∧ Fun K x x st f fd
theorem defI_mk {K : PySem.W.Frag} {x : Str} {st : Stmt} {f : Addr} {oc : Value} {od an : Option Addr} {sl : Array (Option Value)} {kV pm dc cd ct : Value} (a : PySem.W.nsIn K mainGlobals x = some (some (.ref f))) (l : K.lookup f = some ⟨oc, od, .func (PySem.W.fnOf x x (defArgs st) (defBody st) (defScope st) .none kV dc pm an cd ct), sl⟩) (c : PySem.W.codeIn K cd x = true) (k : PySem.W.keepIn K (.ref f) = true) : DefI K x st := ⟨f, _, a, fun_mk l c k⟩
abbrev MetI (K : PySem.W.Frag) (C : Addr) (m q : Str) (st : Stmt) : Prop := ∃ (f : Addr) (fd : FuncData), PySem.W.findIn K (.ref C) m = some (some (.ref f)) ∧ PySem.W.isFn K (.ref f) = true ∧ Fun K m q st f fd
theorem metI_mk {K : PySem.W.Frag} {C : Addr} {x q : Str} {st : Stmt} {f : Addr} {oc : Value} {od an : Option Addr} {sl : Array (Option Value)} {kV pm dc cd ct : Value} (a : PySem.W.findIn K (.ref C) x = some (some (.ref f))) (i : PySem.W.isFn K (.ref f) = true) (l : K.lookup f = some ⟨oc, od, .func (PySem.W.fnOf x q (defArgs st) (defBody st) (defScope st) .none kV dc pm an cd ct), sl⟩) (c : PySem.W.codeIn K cd q = true) (k : PySem.W.keepIn K (.ref f) = true) : MetI K C x q st := ⟨f, _, a, i, fun_mk l c k⟩
set_option maxHeartbeats 0 in
theorem all_mk {l : PySem.W.OpenLaw} {w : World} {K : PySem.W.Frag} {h : Heap} {mg : Str → Option Value} {fa : Addr} {f24 : Addr} {od24 an24 : Option Addr} {sl24 : Array (Option Value)} {oc24 kV24 dc24 pm24 cd24 ct24 : Value} {t_DEEPEST : Tok} {t_FIGURES : Tok} {t_LONGEST_names : Tok} {t_LONGEST_reader : Tok} {t_SHORT : Tok} {t_SMALL : Tok} {ta_WORDS : Addr} {tO_WORDS : Obj} {ti_WORDS : Array Value} {tn_WORDS : Nat} (X : K.In h) (G : h.Ns mainGlobals mg) (hfa : mg "law" = some (.ref fa))
    (D0 : DefI K "is_name" jik)
    (D1 : DefI K "whole_in" jhi)
    (D2 : DefI K "need" s_need)
    (D3 : DefI K "is_rising" jgw)
    (D4 : DefI K "listed" jlv)
    (D5 : DefI K "pair_text" jhy)
    (D6 : DefI K "_law_pen" ji5)
    (D7 : DefI K "_law_take" jhz)
    (D8 : DefI K "_law_listed" jgl)
    (D9 : DefI K "signed_in" jh0)
    (D10 : DefI K "piece_in" ji6)
    (D11 : DefI K "step_in" jkh)
    (D12 : DefI K "words_listed" jf9)
    (D13 : DefI K "told_text" jfw)
    (D14 : DefI K "_law_names" jga)
    (D15 : DefI K "_law_amount" jgn)
    (D16 : DefI K "_law_paper_text" jc8)
    (D17 : DefI K "read_told" je4)
    (D18 : DefI K "_law_told_paper" jda)
    (D19 : DefI K "tree_text" jf0)
    (D20 : DefI K "_law_tree_text" jed)
    (D21 : DefI K "tree_at" jhl)
    (D22 : DefI K "read_tree" jh4)
    (D23 : DefI K "_law_tree" jf3)
    (a24 : PySem.W.nsIn K mainGlobals "law" = some (some (.ref f24))) (l24 : K.lookup f24 = some ⟨oc24, od24, .func (PySem.W.fnOf "law" "law" (defArgs s_law) (defBody s_law) (defScope s_law) .none kV24 dc24 pm24 an24 cd24 ct24), sl24⟩) (c24 : PySem.W.codeIn K cd24 "law" = true) (k24 : PySem.W.keepIn K (.ref f24) = true) (b_abs : PySem.W.nsIn K mainGlobals "abs" = some none) (b_all : PySem.W.nsIn K mainGlobals "all" = some none) (b_int : PySem.W.nsIn K mainGlobals "int" = some none) (b_isinstance : PySem.W.nsIn K mainGlobals "isinstance" = some none) (b_len : PySem.W.nsIn K mainGlobals "len" = some none) (b_list : PySem.W.nsIn K mainGlobals "list" = some none) (b_range : PySem.W.nsIn K mainGlobals "range" = some none) (b_repr : PySem.W.nsIn K mainGlobals "repr" = some none) (b_set : PySem.W.nsIn K mainGlobals "set" = some none) (b_sorted : PySem.W.nsIn K mainGlobals "sorted" = some none) (b_str : PySem.W.nsIn K mainGlobals "str" = some none) (b_tuple : PySem.W.nsIn K mainGlobals "tuple" = some none) (b_zip : PySem.W.nsIn K mainGlobals "zip" = some none) (e_DEEPEST : PySem.W.nsIn K mainGlobals "DEEPEST" = some (some (.int 3 t_DEEPEST))) (e_FIGURES : PySem.W.nsIn K mainGlobals "FIGURES" = some (some (.str "0123456789" t_FIGURES))) (e_LONGEST_names : PySem.W.nsIn K mainGlobals "LONGEST_names" = some (some (.int 8 t_LONGEST_names))) (e_LONGEST_reader : PySem.W.nsIn K mainGlobals "LONGEST_reader" = some (some (.int 60 t_LONGEST_reader))) (e_SHORT : PySem.W.nsIn K mainGlobals "SHORT" = some (some (.int 2 t_SHORT))) (e_SMALL : PySem.W.nsIn K mainGlobals "SMALL" = some (some (.str "abcdefghijklmnopqrstuvwxyz" t_SMALL))) (e_WORDS : PySem.W.nsIn K mainGlobals "WORDS" = some (some (.ref ta_WORDS))) (tl_WORDS : K.lookup ta_WORDS = some tO_WORDS) (tc_WORDS : tO_WORDS.cls = .type "tuple") (tx_WORDS : tO_WORDS.dict = none) (td_WORDS : tO_WORDS.data = .seq ti_WORDS tn_WORDS) (tz_WORDS : ti_WORDS.size ≤ sizeLine) (tv_WORDS : Vals ([.str "begin", .str "look", .str "now", .str "some"] : List V) ti_WORDS.toList) (b__law_house : PySem.W.nsIn K mainGlobals "_law_house" = some none) (b__law_with_look : PySem.W.nsIn K mainGlobals "_law_with_look" = some none) (b__law_pieces_due : PySem.W.nsIn K mainGlobals "_law_pieces_due" = some none) (b__law_ties_due : PySem.W.nsIn K mainGlobals "_law_ties_due" = some none) (b__law_put_right : PySem.W.nsIn K mainGlobals "_law_put_right" = some none) (b__law_left_right : PySem.W.nsIn K mainGlobals "_law_left_right" = some none) (b__law_no_name : PySem.W.nsIn K mainGlobals "_law_no_name" = some none) (b__law_told_by : PySem.W.nsIn K mainGlobals "_law_told_by" = some none) (b__law_odd_ones : PySem.W.nsIn K mainGlobals "_law_odd_ones" = some none) (b__law_thens : PySem.W.nsIn K mainGlobals "_law_thens" = some none) (b__law_row_right : PySem.W.nsIn K mainGlobals "_law_row_right" = some none) (b__law_entry_right : PySem.W.nsIn K mainGlobals "_law_entry_right" = some none) (b__law_told_right : PySem.W.nsIn K mainGlobals "_law_told_right" = some none) (b__law_tree_right : PySem.W.nsIn K mainGlobals "_law_tree_right" = some none) (b__law_said : PySem.W.nsIn K mainGlobals "_law_said" = some none) (b__law_plain : PySem.W.nsIn K mainGlobals "_law_plain" = some none) (b__law_now_right : PySem.W.nsIn K mainGlobals "_law_now_right" = some none) (hl : Keeps jhh) :
    (∀ x ∈ jjx, x ∈ (["law"] : List Str) ∨ PySem.W.nsIn K mainGlobals x = some none) ∧ ∃ TB : Tbl, (∀ P q, TB.L P q → LamTab K P q) ∧
    ∃ fd : FuncData, (∀ (s : Shared) (v : Value), BindsTo s fd ⟨[v], []⟩ [("_law_script", v)]) ∧ ∀ base : Heap, K.In base → base.Ns mainGlobals mg → @LB TB mg base → FnG l.prog w K mg base 33 fa fd ["_law_script"] (@spLaw TB K) := by
  letI TB0 : Tbl := tbl0
  have e := hfa.symm.trans (PySem.W.mg_of X G a24)
  cases e
  obtain ⟨f0, _, a0, F0⟩ := D0
  obtain ⟨f1, _, a1, F1⟩ := D1
  obtain ⟨f2, _, a2, F2⟩ := D2
  obtain ⟨f3, _, a3, F3⟩ := D3
  obtain ⟨f4, _, a4, F4⟩ := D4
  obtain ⟨f5, _, a5, F5⟩ := D5
  obtain ⟨f6, _, a6, F6⟩ := D6
  obtain ⟨f7, _, a7, F7⟩ := D7
  obtain ⟨f8, _, a8, F8⟩ := D8
  obtain ⟨f9, _, a9, F9⟩ := D9
  obtain ⟨f10, _, a10, F10⟩ := D10
  obtain ⟨f11, _, a11, F11⟩ := D11
  obtain ⟨f12, _, a12, F12⟩ := D12
  obtain ⟨f13, _, a13, F13⟩ := D13
  obtain ⟨f14, _, a14, F14⟩ := D14
  obtain ⟨f15, _, a15, F15⟩ := D15
  obtain ⟨f16, _, a16, F16⟩ := D16
  obtain ⟨f17, _, a17, F17⟩ := D17
  obtain ⟨f18, _, a18, F18⟩ := D18
  obtain ⟨f19, _, a19, F19⟩ := D19
  obtain ⟨f20, _, a20, F20⟩ := D20
  obtain ⟨f21, _, a21, F21⟩ := D21
  obtain ⟨f22, _, a22, F22⟩ := D22
  obtain ⟨f23, _, a23, F23⟩ := D23
  have F24 := fun_mk (st := s_law) l24 c24 k24
  have z_abs := PySem.W.mg_none_of X G b_abs
  have z_all := PySem.W.mg_none_of X G b_all
  have z_int := PySem.W.mg_none_of X G b_int
  have z_isinstance := PySem.W.mg_none_of X G b_isinstance
  have z_len := PySem.W.mg_none_of X G b_len
  have z_list := PySem.W.mg_none_of X G b_list
  have z_range := PySem.W.mg_none_of X G b_range
  have z_repr := PySem.W.mg_none_of X G b_repr
  have z_set := PySem.W.mg_none_of X G b_set
  have z_sorted := PySem.W.mg_none_of X G b_sorted
  have z_str := PySem.W.mg_none_of X G b_str
  have z_tuple := PySem.W.mg_none_of X G b_tuple
  have z_zip := PySem.W.mg_none_of X G b_zip
  have g_DEEPEST : Glo K mg "DEEPEST" (.int 3) := jml (PySem.W.mg_of X G e_DEEPEST)
  have g_FIGURES : Glo K mg "FIGURES" (.str "0123456789") := glo_str (PySem.W.mg_of X G e_FIGURES)
  have g_LONGEST_names : Glo K mg "LONGEST_names" (.int 8) := jml (PySem.W.mg_of X G e_LONGEST_names)
  have g_LONGEST_reader : Glo K mg "LONGEST_reader" (.int 60) := jml (PySem.W.mg_of X G e_LONGEST_reader)
  have g_SHORT : Glo K mg "SHORT" (.int 2) := jml (PySem.W.mg_of X G e_SHORT)
  have g_SMALL : Glo K mg "SMALL" (.str "abcdefghijklmnopqrstuvwxyz") := glo_str (PySem.W.mg_of X G e_SMALL)
  have g_WORDS : Glo K mg "WORDS" (.con [(.str "begin"), (.str "look"), (.str "now"), (.str "some")]) := glo_tup (PySem.W.mg_of X G e_WORDS) tl_WORDS tc_WORDS tx_WORDS td_WORDS tz_WORDS tv_WORDS fun _ _ => .cons (fp := []) (.str _) (.cons (fp := []) (.str _) (.cons (fp := []) (.str _) (.cons (fp := []) (.str _) (.nil))))
  refine ⟨jee (.inr b__law_house) (jee (.inr b__law_with_look) (jee (.inr b__law_pieces_due) (jee (.inr b__law_ties_due) (jee (.inr b__law_put_right) (jee (.inr b__law_left_right) (jee (.inr b__law_no_name) (jee (.inr b__law_told_by) (jee (.inr b__law_odd_ones) (jee (.inr b__law_thens) (jee (.inr b__law_row_right) (jee (.inr b__law_entry_right) (jee (.inl (by decide +kernel)) (jee (.inr b__law_told_right) (jee (.inr b__law_tree_right) (jee (.inr b__law_said) (jee (.inr b__law_plain) (jee (.inr b__law_now_right) (lr_nil)))))))))))))))))), TB0, fun _ _ h => h.elim, ?_⟩
  refine ⟨PySem.W.fnOf "law" "law" (defArgs s_law) (defBody s_law) (defScope s_law) .none kV24 dc24 pm24 an24 cd24 ct24, fun s v => .of_eq rfl, fun base _ _ lb => ?_⟩
  have G_is_name : Cal l.prog w K mg base 1 "is_name" jfi [] jbr := ⟨f0, _, jod (P := l.prog) (w := w) (base := base) F0 z_all z_isinstance z_len z_str g_LONGEST_names g_SMALL, PySem.W.mg_of X G a0, F0.kp, F0.binds (ps := jfi) fun _ _ _ _ _ _ us hl => match us, hl with | [_], _ => rfl⟩
  have G_whole_in : Cal l.prog w K mg base 1 "whole_in" jft [] jbx := ⟨f1, _, jm7 (P := l.prog) (w := w) (base := base) F1 z_all z_int z_len g_FIGURES g_LONGEST_reader, PySem.W.mg_of X G a1, F1.kp, F1.binds (ps := jft) fun _ _ _ _ _ _ us hl => match us, hl with | [_], _ => rfl⟩
  have G_need : Cal l.prog w K mg base 1 "need" jif [] jbw := ⟨f2, _, ok_need (P := l.prog) (w := w) (base := base) F2 , PySem.W.mg_of X G a2, F2.kp, F2.binds (ps := jif) fun _ _ _ _ _ _ us hl => match us, hl with | [_], _ => rfl⟩
  have G_is_rising : Cal l.prog w K mg base 1 "is_rising" jeh [] jb6 := ⟨f3, _, jlu (P := l.prog) (w := w) (base := base) F3 z_all z_zip, PySem.W.mg_of X G a3, F3.kp, F3.binds (ps := jeh) fun _ _ _ _ _ _ us hl => match us, hl with | [_], _ => rfl⟩
  have G_listed : Cal l.prog w K mg base 1 "listed" ji4 [] jeq := ⟨f4, _, ok_listed (P := l.prog) (w := w) (base := base) F4 , PySem.W.mg_of X G a4, F4.kp, F4.binds (ps := ji4) fun _ _ _ _ _ _ us hl => match us, hl with | [_], _ => rfl⟩
  have G_pair_text : Cal l.prog w K mg base 1 "pair_text" jfu [] jdc := ⟨f5, _, jlx (P := l.prog) (w := w) (base := base) F5 , PySem.W.mg_of X G a5, F5.kp, F5.binds (ps := jfu) fun _ _ _ _ _ _ us hl => match us, hl with | [_], _ => rfl⟩
  have G__law_pen : Cal l.prog w K mg base 1 "_law_pen" jgk [] jel := ⟨f6, _, jm9 (P := l.prog) (w := w) (base := base) F6 z_list, PySem.W.mg_of X G a6, F6.kp, F6.binds (ps := jgk) fun _ _ _ _ _ _ us hl => match us, hl with | [_], _ => rfl⟩
  have G__law_take : Cal l.prog w K mg base 1 "_law_take" jdi [0] jab := ⟨f7, _, jly (P := l.prog) (w := w) (base := base) F7 z_abs z_len, PySem.W.mg_of X G a7, F7.kp, F7.binds (ps := jdi) fun _ _ _ _ _ _ us hl => match us, hl with | [_, _], _ => rfl⟩
  have G__law_listed : Cal l.prog w K mg base 1 "_law_listed" jeo [] jb3 := ⟨f8, _, jkg (P := l.prog) (w := w) (base := base) F8 z_int, PySem.W.mg_of X G a8, F8.kp, F8.binds (ps := jeo) fun _ _ _ _ _ _ us hl => match us, hl with | [_], _ => rfl⟩
  have G_signed_in : Cal l.prog w K mg base 2 "signed_in" jfv [] jdd := ⟨f9, _, jlz (P := l.prog) (w := w) (base := base) F9 G_need G_whole_in, PySem.W.mg_of X G a9, F9.kp, F9.binds (ps := jfv) fun _ _ _ _ _ _ us hl => match us, hl with | [_], _ => rfl⟩
  have G_piece_in : Cal l.prog w K mg base 2 "piece_in" jgm [] jfa := ⟨f10, _, jna (P := l.prog) (w := w) (base := base) F10 G_is_name G_need G_whole_in z_len g_SHORT, PySem.W.mg_of X G a10, F10.kp, F10.binds (ps := jgm) fun _ _ _ _ _ _ us hl => match us, hl with | [_], _ => rfl⟩
  have G_step_in : Cal l.prog w K mg base 2 "step_in" jhj [] jf7 := ⟨f11, _, jof (P := l.prog) (w := w) (base := base) F11 G_is_name G_need z_len g_WORDS, PySem.W.mg_of X G a11, F11.kp, F11.binds (ps := jhj) fun _ _ _ _ _ _ us hl => match us, hl with | [_], _ => rfl⟩
  have G_words_listed : Cal l.prog w K mg base 2 "words_listed" jec [] jaz := ⟨f12, _, jjf (P := l.prog) (w := w) (base := base) F12 G_need, PySem.W.mg_of X G a12, F12.kp, F12.binds (ps := jec) fun _ _ _ _ _ _ us hl => match us, hl with | [_], _ => rfl⟩
  have G_told_text : Cal l.prog w K mg base 2 "told_text" jfx [] jct := ⟨f13, _, jl0 (P := l.prog) (w := w) (base := base) F13 G_listed G_pair_text z_int z_str, PySem.W.mg_of X G a13, F13.kp, F13.binds (ps := jfx) fun _ _ _ _ _ _ us hl => match us, hl with | [_], _ => rfl⟩
  have G__law_names : Cal l.prog w K mg base 2 "_law_names" jdw [0] jbn := ⟨f14, _, jla (P := l.prog) (w := w) (base := base) F14 G__law_take z_len z_range, PySem.W.mg_of X G a14, F14.kp, F14.binds (ps := jdw) fun _ _ _ _ _ _ us hl => match us, hl with | [_, _], _ => rfl⟩
  have G__law_amount : Cal l.prog w K mg base 2 "_law_amount" jep [0] jc5 := ⟨f15, _, jki (P := l.prog) (w := w) (base := base) F15 G__law_take z_range, PySem.W.mg_of X G a15, F15.kp, F15.binds (ps := jep) fun _ _ _ _ _ _ us hl => match us, hl with | [_], _ => rfl⟩
  have G__law_paper_text : Cal l.prog w K mg base 2 "_law_paper_text" jc9 [] jag := ⟨f16, _, jh1 (P := l.prog) (w := w) (base := base) F16 G__law_listed z_int z_str, PySem.W.mg_of X G a16, F16.kp, F16.binds (ps := jc9) fun _ _ _ _ _ _ us hl => match us, hl with | [_], _ => rfl⟩
  have G_read_told : Cal l.prog w K mg base 3 "read_told" jfz [] jcu := ⟨f17, _, jl1 (P := l.prog) (w := w) (base := base) F17 G_is_rising G_need G_piece_in G_signed_in G_step_in G_words_listed z_isinstance z_len z_set z_str, PySem.W.mg_of X G a17, F17.kp, F17.binds (ps := jfz) fun _ _ _ _ _ _ us hl => match us, hl with | [_], _ => rfl⟩
  have G__law_told_paper : Cal l.prog w K mg base 3 "_law_told_paper" jdb [0] jas := ⟨f18, _, jh2 (P := l.prog) (w := w) (base := base) F18 G__law_amount G__law_names G__law_take z_len z_range z_set z_sorted, PySem.W.mg_of X G a18, F18.kp, F18.binds (ps := jdb) fun _ _ _ _ _ _ us hl => match us, hl with | [_], _ => rfl⟩
  have G_tree_text : Cal l.prog w K mg base 30 "tree_text" jd5 [] jfr := ⟨f19, _, jl2 (P := l.prog) (w := w) (base := base) F19 (PySem.W.mg_of X G a19), PySem.W.mg_of X G a19, F19.kp, F19.binds (ps := jd5) fun _ _ _ _ _ _ us hl => match us, hl with | [_], _ => rfl⟩
  have G__law_tree_text : Cal l.prog w K mg base 30 "_law_tree_text" jbq [] jdg := ⟨f20, _, jig (P := l.prog) (w := w) (base := base) F20 z_int z_len z_range (PySem.W.mg_of X G a20), PySem.W.mg_of X G a20, F20.kp, F20.binds (ps := jbq) fun _ _ _ _ _ _ us hl => match us, hl with | [_], _ => rfl⟩
  have G_tree_at : Cal l.prog w K mg base 31 "tree_at" jfj [] jhg := ⟨f21, _, jog (P := l.prog) (w := w) (base := base) F21 G_is_name G_is_rising G_need z_all z_int z_len z_range z_tuple g_DEEPEST (PySem.W.mg_of X G a21), PySem.W.mg_of X G a21, F21.kp, F21.binds (ps := jfj) fun _ _ _ _ _ _ us hl => match us, hl with | [_, _, _], _ => rfl⟩
  have G_read_tree : Cal l.prog w K mg base 32 "read_tree" jf2 [] jeg := ⟨f22, _, jl3 (P := l.prog) (w := w) (base := base) F22 G_need G_tree_at z_isinstance z_len z_str, PySem.W.mg_of X G a22, F22.kp, F22.binds (ps := jf2) fun _ _ _ _ _ _ us hl => match us, hl with | [_], _ => rfl⟩
  have G__law_tree : Cal l.prog w K mg base 32 "_law_tree" jd6 [0] jeb := ⟨f23, _, jl4 (P := l.prog) (w := w) (base := base) F23 G__law_names G__law_take z_sorted z_tuple (PySem.W.mg_of X G a23), PySem.W.mg_of X G a23, F23.kp, F23.binds (ps := jd6) fun _ _ _ _ _ _ us hl => match us, hl with | [_, _], _ => rfl⟩
  exact FnG.weak (ok_law (P := l.prog) (w := w) (base := base) F24 G__law_paper_text G__law_pen G__law_told_paper G__law_tree G__law_tree_text G_read_told G_read_tree G_told_text G_tree_text z_isinstance z_range z_repr z_str z_tuple) (law_imp hl)
end Q
open PySem PySem.W PyProof.Rows
local macro_rules | `(tactic| wide_open with (90, $fs,*)) => `(tactic| (refine' Q.defI_mk ?a ?l ?c ?k; (case a => k_is); (case l => k_is); (case c => k_is); (case k => k_is)))
local macro_rules | `(tactic| wide_open with (91, $fs,*)) => `(tactic| (refine' Q.metI_mk ?a ?i ?l ?c ?k; (case a => k_is); (case i => k_is); (case l => k_is); (case c => k_is); (case k => k_is)))
set_option maxHeartbeats 0 in
theorem PySem.Challenge.cw_shelfcounts_k76_papers_written_and_read_holds : PySem.Challenge.rw_shelfcounts_k76_papers_written_and_read.Holds := by
  w_on; refine Q.pre_look fun said => ?_
  refine PySem.W.holds_open (q := Q.hdV) (loose := Q.hdL) (Xt := Q.hdX) (XP := PySem.W.XL Q.hdV []) (Yf := PySem.W.Hook.obs (PySem.W.kHook Q.hdMk.heap_1 Q.hdA Q.hdE)) (Ya := PySem.W.Hook.val (PySem.W.kHook Q.hdMk.heap_1 Q.hdA Q.hdE)) (YP := PySem.W.Hook.says (PySem.W.kHook Q.hdMk.heap_1 Q.hdA Q.hdE)) (N := 60000) Q.hdLeft (PySem.W.Hook.of _) (PySem.W.Hook.keeps _) (fun s e => PySem.W.xl_of s (Bool.and_eq_true_iff.mp e).1) PySem.W.XL.keeps (by rfl) (by rfl) (by rfl) (fun s e => PySem.W.recFacts_of (Bool.and_eq_true_iff.mp e).2) (by rfl) (by assumption) (by decide +kernel) ⟨rfl, rfl, rfl, rfl, rfl, by decide +kernel⟩ ?hw ?hc
  case hw => w_witness2
  k_fill
  refine Q.walk_g (l := PySem.Challenge.rw_shelfcounts_k76_papers_written_and_read) (k := 33) (x := "_law_script") ["law"] rfl rfl ⟨rfl, by decide, by decide⟩ (by decide +kernel) (fun w h Y => PySem.W.kIn_of Y) ?F
  case F =>
    intro w mg fa h KX G hmg
    refine' Q.all_mk KX G hmg ?D0 ?D1 ?D2 ?D3 ?D4 ?D5 ?D6 ?D7 ?D8 ?D9 ?D10 ?D11 ?D12 ?D13 ?D14 ?D15 ?D16 ?D17 ?D18 ?D19 ?D20 ?D21 ?D22 ?D23 ?a24 ?l24 ?c24 ?k24 ?b_abs ?b_all ?b_int ?b_isinstance ?b_len ?b_list ?b_range ?b_repr ?b_set ?b_sorted ?b_str ?b_tuple ?b_zip ?e_DEEPEST ?e_FIGURES ?e_LONGEST_names ?e_LONGEST_reader ?e_SHORT ?e_SMALL ?e_WORDS ?tl_WORDS ?tc_WORDS ?tx_WORDS ?td_WORDS ?tz_WORDS ?tv_WORDS ?b__law_house ?b__law_with_look ?b__law_pieces_due ?b__law_ties_due ?b__law_put_right ?b__law_left_right ?b__law_no_name ?b__law_told_by ?b__law_odd_ones ?b__law_thens ?b__law_row_right ?b__law_entry_right ?b__law_told_right ?b__law_tree_right ?b__law_said ?b__law_plain ?b__law_now_right Q.jng
    (case D0 => wide_open with (90, 0)); (case D1 => wide_open with (90, 0)); (case D2 => wide_open with (90, 0)); (case D3 => wide_open with (90, 0)); (case D4 => wide_open with (90, 0)); (case D5 => wide_open with (90, 0)); (case D6 => wide_open with (90, 0)); (case D7 => wide_open with (90, 0)); (case D8 => wide_open with (90, 0)); (case D9 => wide_open with (90, 0)); (case D10 => wide_open with (90, 0)); (case D11 => wide_open with (90, 0)); (case D12 => wide_open with (90, 0)); (case D13 => wide_open with (90, 0)); (case D14 => wide_open with (90, 0)); (case D15 => wide_open with (90, 0)); (case D16 => wide_open with (90, 0)); (case D17 => wide_open with (90, 0)); (case D18 => wide_open with (90, 0)); (case D19 => wide_open with (90, 0)); (case D20 => wide_open with (90, 0)); (case D21 => wide_open with (90, 0)); (case D22 => wide_open with (90, 0)); (case D23 => wide_open with (90, 0)); (case a24 => k_is); (case l24 => k_is); (case c24 => k_is); (case k24 => k_is); (case b_abs => k_is); (case b_all => k_is); (case b_int => k_is); (case b_isinstance => k_is); (case b_len => k_is); (case b_list => k_is); (case b_range => k_is); (case b_repr => k_is); (case b_set => k_is); (case b_sorted => k_is); (case b_str => k_is); (case b_tuple => k_is); (case b_zip => k_is); (case e_DEEPEST => k_is); (case e_FIGURES => k_is); (case e_LONGEST_names => k_is); (case e_LONGEST_reader => k_is); (case e_SHORT => k_is); (case e_SMALL => k_is); (case e_WORDS => k_is); (case tl_WORDS => k_is); (case tc_WORDS => exact rfl); (case tx_WORDS => exact rfl); (case td_WORDS => exact rfl); (case tz_WORDS => decide); (case tv_WORDS => exact .cons ⟨_, rfl⟩ (.cons ⟨_, rfl⟩ (.cons ⟨_, rfl⟩ (.cons ⟨_, rfl⟩ (.nil))))); (case b__law_house => k_is); (case b__law_with_look => k_is); (case b__law_pieces_due => k_is); (case b__law_ties_due => k_is); (case b__law_put_right => k_is); (case b__law_left_right => k_is); (case b__law_no_name => k_is); (case b__law_told_by => k_is); (case b__law_odd_ones => k_is); (case b__law_thens => k_is); (case b__law_row_right => k_is); (case b__law_entry_right => k_is); (case b__law_told_right => k_is); (case b__law_tree_right => k_is); (case b__law_said => k_is); (case b__law_plain => k_is); (case b__law_now_right => k_is)
