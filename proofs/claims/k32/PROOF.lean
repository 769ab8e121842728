import PyProof.Rows.All
import Wide.All
import OpenK.AllK
import Wide.FinOn
import HandS.Words
import HandS.Head0
import HandS.Head1
import HandS.Head2
import HandS.HeadEnd
import HandS.HeadHook1
import HandS.HeadHook2
import HandS.HeadHook3
import HandS.HeadHook4
import HandS.ForMost
import HandS.Exc
import HandS.TryOnly
import HandS.ExcOwn
import HandS.WordsExc
import HandS.TupAny
import HandS.TupMul
import HandS.Style
import HandS.Walk
import HandS.NoneIn
import HandS.Deep
import HandS.Zip
import HandS.CallSlots
import KE.DataMinMax
import HandS.Text
import HandS.StrMore
import HandS.SortKw
import HandS.SetKeys
import HandS.SetFor
import KE.SortData
import PyProof.Rows.SetFrom
import PyProof.TupleOfSeq
import HandS.Conv
import KE.KTupSum
import KE.GoesMore
import HandS.IsInst
import HandS.HotCalls
import HandS.ExcIs
import PyProof.Rows.CountFlat
import HandS.Dict
import HandS.Flow
import HandS.Iter
import KE.KDictKeyed
import KE.KDictPairs
import KE.KDictCopyH
import HandS.TupSets
import Wide.More
import HandS.ClsMeth
import HandS.SetIn
import PySem.Challenge.RW_sumlays_k32_whole_two_put_in
set_option Elab.async false
set_option maxRecDepth 100000
set_option maxHeartbeats 4000000
set_option linter.unusedSimpArgs false
/-! HD0: what a head is asked. -/
namespace PL
open PySem L2 PyProof.Rows
/-- a tuple of texts that stands under a name -/
noncomputable def tupHd (K : PySem.W.Frag) (x : Str) (ws : List Str) : Bool :=
  match PySem.W.nsIn K mainGlobals x with
  | some (some (.ref a)) => match K.lookup a with
    | some ⟨.type t, _, .seq its _, _⟩ => decide (t = "tuple") && decide (its.size = ws.length) && decide (its.size ≤ 1000) && (its.toList.zip ws).all fun p => match p.1 with
      | .str z _ => decide (z = p.2)
      | _ => false
    | _ => false
  | _ => false
/-! a cheaper look at the heap: the globals, their functions' code, their classes' methods -/
noncomputable def refsE (g : Addr → Option Obj) (a : Addr) : List Addr := match g a with
  | some o => He.refsD o
  | none => []
noncomputable def asE (g : Addr → Option Obj) : List Addr := mainGlobals :: (refsE g mainGlobals).flatMap fun a => a :: (match g a with
  | some o => (match o.data with
    | .cls cd => He.refsD o ++ (refsE g cd.ns).flatMap fun m => m :: refsE g m
    | .func _ => He.refsD o
    | _ => [])
  | none => [])
noncomputable abbrev AlE : Type := He.AlD × Bool
noncomputable def obsE (fa : List He.Fa) (fn : List He.DefD) (ex : PySem.W.Frag → Bool) (g : Addr → Option Obj) : AlE := (He.obsD fa fn (He.frG g (asE g)), ex (He.frG g (asE g)))
noncomputable def hookE (fa : List He.Fa) (fn : List He.DefD) (ex : PySem.W.Frag → Bool) : PySem.W.Hook where
  α := AlE
  obs := fun s => obsE fa fn ex s.heap.get?
  val := fun _ => (He.valD fn, true)
  says := fun _ h => ∃ K : PySem.W.Frag, K.In h ∧ (He.SaysD fa fn K ∧ ex K = true)
  of := fun _ _ e => ⟨_, He.frG_in, congrArg (fun z : AlE => z.1) e, congrArg (fun z : AlE => z.2) e⟩
  keeps := fun _ _ _ ⟨K, hK, c⟩ k => ⟨K, PySem.W.Frag.In.keeps hK k, c⟩
theorem obsE_eq {fa : List He.Fa} {fn : List He.DefD} {ex : PySem.W.Frag → Bool} {g : Addr → Option Obj} {s : Shared} (h : ∀ a, g a = s.heap.get? a) : obsE fa fn ex g = (hookE fa fn ex).obs s := by
  have e : g = s.heap.get? := funext h
  rw [e] <;> rfl
/-- the run, by its three looks -/
theorem run3 {r : PySem.W.OpenRow} {q : Program} {H : PySem.W.Hook} {ob : PySem.W.SharedT → H.α} {M : Nat} {loose : List PySem.Str} {w : World}
    (h1 : ∀ os : OsState, (HandSHeadRun.endF (HandSHeadRun.stepQ (HandSHeadRun.denQ HandSHeadRun.tabQ) r.prog w) M r.prog w os).map (fun s => HandSHeadRun.looksF r.prog (PySem.W.boot_heap w.params) s.abs) = some true)
    (h2 : ∀ os : OsState, (HandSHeadRun.endF (HandSHeadRun.stepQ (HandSHeadRun.denQ HandSHeadRun.tabQ) r.prog w) M r.prog w os).map (fun s => HandSHeadRun.seenQ q loose (importedModules r.prog.main.body) (fun s => PySem.W.xlAt q [] s && PySem.W.recOk r.toRowW.records s) s.abs) = some (PySem.W.openGood q loose))
    (h3 : ∀ os : OsState, (HandSHeadRun.endF (HandSHeadRun.stepQ (HandSHeadRun.denQ HandSHeadRun.tabQ) r.prog w) M r.prog w os).map ob = some (H.val w)) : HandSHeadRun.RunEq r q H ob M loose w := fun os => by
  have a := h1 os
  have b := h2 os
  have c := h3 os
  revert a b c
  cases HandSHeadRun.endF (HandSHeadRun.stepQ (HandSHeadRun.denQ HandSHeadRun.tabQ) r.prog w) M r.prog w os with
  | none => intro a; cases a
  | some s =>
    intro a b c
    exact congrArg some (Prod.ext (Option.some.inj a) (Prod.ext (Option.some.inj b) (Option.some.inj c)))
end PL

namespace Lw
open PySem
noncomputable def topS (i : Nat) : Stmt := PySem.Challenge.pw_sumlays_k32_whole_two_put_in.main.body.getD i (.Pass ⟨0, 0, 0, 0⟩)
noncomputable def dd0 : He.DefD := ⟨("kind", none), "kind", "kind", L2.defArgs (topS 5), L2.defBody (topS 5), L2.defScope (topS 5), [], []⟩
noncomputable def dd1 : He.DefD := ⟨("parts", none), "parts", "parts", L2.defArgs (topS 6), L2.defBody (topS 6), L2.defScope (topS 6), [], []⟩
noncomputable def dd2 : He.DefD := ⟨("with_parts", none), "with_parts", "with_parts", L2.defArgs (topS 7), L2.defBody (topS 7), L2.defScope (topS 7), [], []⟩
noncomputable def dd3 : He.DefD := ⟨("size", none), "size", "size", L2.defArgs (topS 8), L2.defBody (topS 8), L2.defScope (topS 8), [], []⟩
noncomputable def dd4 : He.DefD := ⟨("ways", none), "ways", "ways", L2.defArgs (topS 9), L2.defBody (topS 9), L2.defScope (topS 9), [], []⟩
noncomputable def dd5 : He.DefD := ⟨("part_at", none), "part_at", "part_at", L2.defArgs (topS 10), L2.defBody (topS 10), L2.defScope (topS 10), [], []⟩
noncomputable def dd6 : He.DefD := ⟨("may_be", none), "may_be", "may_be", L2.defArgs (topS 11), L2.defBody (topS 11), L2.defScope (topS 11), [], []⟩
noncomputable def dd7 : He.DefD := ⟨("fitted", none), "fitted", "fitted", L2.defArgs (topS 13), L2.defBody (topS 13), L2.defScope (topS 13), [], []⟩
noncomputable def dd8 : He.DefD := ⟨("put_in", none), "put_in", "put_in", L2.defArgs (topS 14), L2.defBody (topS 14), L2.defScope (topS 14), [], []⟩
noncomputable def dd9 : He.DefD := ⟨("words", none), "words", "words", L2.defArgs (topS 15), L2.defBody (topS 15), L2.defScope (topS 15), [], []⟩
noncomputable def dd10 : He.DefD := ⟨("_law_cell", none), "_law_cell", "_law_cell", L2.defArgs (topS 17), L2.defBody (topS 17), L2.defScope (topS 17), [], []⟩
noncomputable def dd11 : He.DefD := ⟨("_law_mix", none), "_law_mix", "_law_mix", L2.defArgs (topS 18), L2.defBody (topS 18), L2.defScope (topS 18), [], []⟩
noncomputable def dd12 : He.DefD := ⟨("_law_atom", none), "_law_atom", "_law_atom", L2.defArgs (topS 19), L2.defBody (topS 19), L2.defScope (topS 19), [], []⟩
noncomputable def dd13 : He.DefD := ⟨("_law_base", none), "_law_base", "_law_base", L2.defArgs (topS 20), L2.defBody (topS 20), L2.defScope (topS 20), [], []⟩
noncomputable def dd14 : He.DefD := ⟨("_law_item", none), "_law_item", "_law_item", L2.defArgs (topS 21), L2.defBody (topS 21), L2.defScope (topS 21), [], []⟩
noncomputable def dd15 : He.DefD := ⟨("_law_draw", none), "_law_draw", "_law_draw", L2.defArgs (topS 22), L2.defBody (topS 22), L2.defScope (topS 22), [], []⟩
noncomputable def dd16 : He.DefD := ⟨("_law_fresh", none), "_law_fresh", "_law_fresh", L2.defArgs (topS 23), L2.defBody (topS 23), L2.defScope (topS 23), [], []⟩
noncomputable def dd17 : He.DefD := ⟨("_law_many", none), "_law_many", "_law_many", L2.defArgs (topS 24), L2.defBody (topS 24), L2.defScope (topS 24), [], []⟩
noncomputable def dd18 : He.DefD := ⟨("law", none), "law", "law", L2.defArgs (topS 25), L2.defBody (topS 25), L2.defScope (topS 25), [], []⟩
noncomputable def fa : List He.Fa := [.glo "kind", .glo "parts", .glo "with_parts", .glo "size", .glo "ways", .glo "part_at", .glo "may_be", .glo "fitted", .glo "put_in", .glo "words", .glo "_law_cell", .glo "_law_mix", .glo "_law_atom", .glo "_law_base", .glo "_law_item", .glo "_law_draw", .glo "_law_fresh", .glo "_law_many", .glo "law", .free "enumerate", .free "len", .free "list", .free "min", .free "range", .free "set", .free "sorted", .free "str", .free "sum", .free "tuple", .free "zip", .glo "NoWay", .exc "NoWay"]
noncomputable def fnD : List He.DefD := [dd0, dd1, dd2, dd3, dd4, dd5, dd6, dd7, dd8, dd9, dd10, dd11, dd12, dd13, dd14, dd15, dd16, dd17, dd18]
noncomputable def exs (K : PySem.W.Frag) : List Bool := [PL.tupHd K "BASES" [Str.ofString "word", Str.ofString "held", Str.ofString "table"],
  decide (PySem.W.isClsIn K (He.ga K "NoWay") = true),
  decide (PySem.W.subIn K (.ref (He.ga K "NoWay")) (.ref (He.ga K "NoWay")) = some true)]
noncomputable def ex (K : PySem.W.Frag) : Bool := (exs K).all id
noncomputable abbrev hk : PySem.W.Hook := PL.hookE fa fnD ex
noncomputable def ob (s : PySem.W.SharedT) : PL.AlE := PL.obsE fa fnD ex (HandSHeadRun.getT s)
theorem ob_eq (s : PySem.W.SharedT) : ob s = hk.obs s.abs := PL.obsE_eq (HandSHeadRun.getT_eq s)
noncomputable def names_0 : List Str := ["SumError", "NoWay", "BASES", "kind", "parts", "with_parts", "size", "ways", "part_at", "may_be", "fitted", "put_in", "words", "_law_cell", "_law_mix", "_law_atom", "_law_base", "_law_item", "_law_draw", "_law_fresh", "_law_many"]
noncomputable def names : List Str := names_0
noncomputable abbrev R : PySem.W.OpenRow := PySem.W.OpenLaw.row PySem.Challenge.rw_sumlays_k32_whole_two_put_in
set_option maxHeartbeats 0 in
theorem run1 (w : World) (os : OsState) : ((HandSHeadRun.endF (HandSHeadRun.stepQ (HandSHeadRun.denQ HandSHeadRun.tabQ) R.prog w) 20000 R.prog w os).map fun s => HandSHeadRun.looksF R.prog (PySem.W.boot_heap w.params) s.abs) = some true := by kernel_rfl
set_option maxHeartbeats 0 in
theorem run2 (w : World) (os : OsState) : ((HandSHeadRun.endF (HandSHeadRun.stepQ (HandSHeadRun.denQ HandSHeadRun.tabQ) R.prog w) 20000 R.prog w os).map fun s => HandSHeadRun.seenQ (PySem.W.view R.prog [25]) names (importedModules R.prog.main.body) (fun s => PySem.W.xlAt (PySem.W.view R.prog [25]) [] s && PySem.W.recOk R.toRowW.records s) s.abs) = some (PySem.W.openGood (PySem.W.view R.prog [25]) names) := by kernel_rfl
set_option maxHeartbeats 0 in
theorem run3 (w : World) (os : OsState) : ((HandSHeadRun.endF (HandSHeadRun.stepQ (HandSHeadRun.denQ HandSHeadRun.tabQ) R.prog w) 20000 R.prog w os).map ob) = some (hk.val w) := by kernel_rfl
theorem run (w : World) : HandSHeadRun.RunEq R (PySem.W.view R.prog [25]) hk ob 20000 names w := PL.run3 (run1 w) (run2 w) (run3 w)
end Lw

/-! PL1: the small language and its evaluator. -/
namespace PL
open PySem

/-- values -/
inductive PV where
  | non | bl (b : Bool) | int (i : Int) | str (s : List Nat) | tup (xs : List PV) | lst (xs : List PV) | scr (ns : List Int) | ref (l : Nat)
  deriving Inhabited

mutual
noncomputable def PV.beq : PV → PV → Bool
  | .non, .non => true
  | .bl a, .bl b => a == b
  | .int a, .int b => a == b
  | .str a, .str b => a == b
  | .tup a, .tup b => PV.beqs a b
  | .lst a, .lst b => PV.beqs a b
  | .scr a, .scr b => a == b
  | .ref a, .ref b => a == b
  | _, _ => false
noncomputable def PV.beqs : List PV → List PV → Bool
  | [], [] => true
  | a :: r, b :: s => PV.beq a b && PV.beqs r s
  | _, _ => false
end
mutual
theorem PV.beq_refl : ∀ v : PV, PV.beq v v = true
  | .non => by simp [PV.beq]
  | .bl b => by simp [PV.beq]
  | .int i => by simp [PV.beq]
  | .str s => by simp [PV.beq]
  | .tup xs => by simp only [PV.beq]; exact PV.beqs_refl xs
  | .lst xs => by simp only [PV.beq]; exact PV.beqs_refl xs
  | .scr ns => by simp [PV.beq]
  | .ref l => by simp [PV.beq]
theorem PV.beqs_refl : ∀ vs : List PV, PV.beqs vs vs = true
  | [] => by simp [PV.beqs]
  | v :: r => by simp only [PV.beqs, PV.beq_refl v, PV.beqs_refl r, Bool.and_self]
end
mutual
theorem PV.eq_of_beq : ∀ {a b : PV}, PV.beq a b = true → a = b
  | .non, b, h => by cases b <;> simp [PV.beq] at h <;> rfl
  | .bl x, b, h => by cases b <;> simp [PV.beq] at h; subst h; rfl
  | .int x, b, h => by cases b <;> simp [PV.beq] at h; subst h; rfl
  | .str x, b, h => by cases b <;> simp [PV.beq] at h; subst h; rfl
  | .tup x, b, h => by
    cases b <;> simp only [PV.beq, Bool.false_eq_true] at h
    rw [PV.eq_of_beqs h]
  | .lst x, b, h => by
    cases b <;> simp only [PV.beq, Bool.false_eq_true] at h
    rw [PV.eq_of_beqs h]
  | .scr x, b, h => by cases b <;> simp [PV.beq] at h; subst h; rfl
  | .ref x, b, h => by cases b <;> simp [PV.beq] at h; subst h; rfl
theorem PV.eq_of_beqs : ∀ {a b : List PV}, PV.beqs a b = true → a = b
  | [], b, h => by cases b <;> simp [PV.beqs] at h <;> rfl
  | x :: r, b, h => by
    cases b with
    | nil => simp [PV.beqs] at h
    | cons y s =>
      simp only [PV.beqs, Bool.and_eq_true] at h
      rw [PV.eq_of_beq h.1, PV.eq_of_beqs h.2]
end

mutual
/-- all locations in it lie below n -/
noncomputable def PV.under (n : Nat) : PV → Bool
  | .ref l => decide (l < n)
  | .tup xs => PV.unders n xs
  | .lst xs => PV.unders n xs
  | _ => true
noncomputable def PV.unders (n : Nat) : List PV → Bool
  | [] => true
  | x :: r => PV.under n x && PV.unders n r
end

/-! data: no location -/
mutual
noncomputable def PV.isData : PV → Bool
  | .ref _ => false
  | .scr _ => false
  | .tup xs => PV.areData xs
  | .lst xs => PV.areData xs
  | _ => true
noncomputable def PV.areData : List PV → Bool
  | [] => true
  | x :: r => PV.isData x && PV.areData r
end
mutual
noncomputable def PV.toD : PV → PyData
  | .non => .none
  | .bl b => .bool b
  | .int i => .int i
  | .str s => .str ⟨s.toArray⟩
  | .tup xs => .tuple (PV.toDs xs)
  | .lst xs => .list (PV.toDs xs)
  | .scr _ => .none
  | .ref _ => .none
noncomputable def PV.toDs : List PV → List PyData
  | [] => []
  | x :: r => PV.toD x :: PV.toDs r
end
noncomputable def PV.okD (v : PV) : Bool := v.isData && SeqAt.shaped v.toD

/-- attributes by name -/
noncomputable abbrev Flds := List (Str × PV)
noncomputable def beqF : Flds → Flds → Bool
  | [], [] => true
  | a :: r, b :: s => decide (a.1 = b.1) && PV.beq a.2 b.2 && beqF r s
  | _, _ => false
theorem beqF_refl : ∀ fs : Flds, beqF fs fs = true
  | [] => rfl
  | a :: r => by simp [beqF, PV.beq_refl, beqF_refl r]
theorem eq_of_beqF : ∀ {a b : Flds}, beqF a b = true → a = b
  | [], b, h => by cases b <;> simp [beqF] at h <;> rfl
  | x :: r, b, h => by
    cases b with
    | nil => simp [beqF] at h
    | cons y s =>
      simp only [beqF, Bool.and_eq_true, decide_eq_true_eq] at h
      rw [show x = y from Prod.ext h.1.1 (PV.eq_of_beq h.1.2), eq_of_beqF h.2]
noncomputable def putP (f : Str) (v : PV) : Flds → Flds
  | [] => [(f, v)]
  | (g, x) :: r => if g = f then (g, v) :: r else (g, x) :: putP f v r
/-- a key of a dict: numbers and texts -/
noncomputable abbrev KP := Int ⊕ List Nat
noncomputable abbrev DC := List (List KP × PV)
noncomputable def beqD : DC → DC → Bool
  | [], [] => true
  | a :: r, b :: s => decide (a.1 = b.1) && PV.beq a.2 b.2 && beqD r s
  | _, _ => false
theorem beqD_refl : ∀ fs : DC, beqD fs fs = true
  | [] => rfl
  | a :: r => by simp [beqD, PV.beq_refl, beqD_refl r]
theorem eq_of_beqD : ∀ {a b : DC}, beqD a b = true → a = b
  | [], b, h => by cases b <;> simp [beqD] at h <;> rfl
  | x :: r, b, h => by
    cases b with
    | nil => simp [beqD] at h
    | cons y s =>
      simp only [beqD, Bool.and_eq_true, decide_eq_true_eq] at h
      rw [show x = y from Prod.ext h.1.1 (PV.eq_of_beq h.1.2), eq_of_beqD h.2]
noncomputable def kyV : PV → Option KP
  | .int i => some (.inl i)
  | .str s => some (.inr s)
  | _ => none
noncomputable def kysV : List PV → Option (List KP)
  | [] => some []
  | x :: r => (kyV x).bind fun k => (kysV r).map (k :: ·)
/-- the key: a tuple of such, or one -/
noncomputable def keyV (t : Bool) (vs : List PV) : Option (List KP) := if decide (vs.length ≤ 100) && (t || decide (vs.length = 1)) then kysV vs else none
noncomputable def dlook (kvs : DC) (k : List KP) : Option PV := (kvs.find? fun kv => decide (kv.1 = k)).map (·.2)
noncomputable def dput (kvs : DC) (k : List KP) (v : PV) : DC :=
  if (kvs.any fun kv => decide (kv.1 = k)) = true then kvs.map (fun kv => if kv.1 = k then (kv.1, v) else kv) else kvs ++ [(k, v)]
/-- what stands at a location -/
inductive Cell where
  | dead | lst (xs : List PV) | obj (C : Str) (fs : Flds) | dct (t : Bool) (kvs : DC) | fdc (kvs : DC)
noncomputable def Cell.beq : Cell → Cell → Bool
  | .dead, .dead => true
  | .lst a, .lst b => PV.beqs a b
  | .obj C a, .obj D b => decide (C = D) && beqF a b
  | .dct t a, .dct u b => decide (t = u) && beqD a b
  | .fdc a, .fdc b => beqD a b
  | _, _ => false
theorem Cell.beq_refl : ∀ c : Cell, Cell.beq c c = true
  | .dead => rfl
  | .lst xs => PV.beqs_refl xs
  | .obj C fs => by simp [Cell.beq, beqF_refl]
  | .dct t kvs => by simp [Cell.beq, beqD_refl]
  | .fdc kvs => beqD_refl kvs
theorem Cell.eq_of_beq : ∀ {a b : Cell}, Cell.beq a b = true → a = b
  | .dead, b, h => by cases b <;> simp [Cell.beq] at h <;> rfl
  | .lst x, b, h => by
    cases b <;> simp only [Cell.beq, Bool.false_eq_true] at h
    rw [PV.eq_of_beqs h]
  | .obj C x, b, h => by
    cases b <;> simp only [Cell.beq, Bool.false_eq_true, Bool.and_eq_true, decide_eq_true_eq] at h
    rw [h.1, eq_of_beqF h.2]
  | .dct t x, b, h => by
    cases b <;> simp only [Cell.beq, Bool.false_eq_true, Bool.and_eq_true, decide_eq_true_eq] at h
    rw [h.1, eq_of_beqD h.2]
  | .fdc x, b, h => by
    cases b <;> simp only [Cell.beq, Bool.false_eq_true] at h
    rw [eq_of_beqD h]
noncomputable def Cell.under (n : Nat) : Cell → Bool
  | .dead => true
  | .lst xs => PV.unders n xs
  | .obj _ fs => PV.unders n (fs.map (·.2))
  | .dct _ kvs => PV.unders n (kvs.map (·.2))
  | .fdc kvs => PV.unders n (kvs.map (·.2))

noncomputable abbrev Sto := List Cell
noncomputable abbrev Env := List (Option PV)

inductive Res (α : Type) where
  | ok (a : α) (st : Sto) | exc (c : Nat) (st : Sto) | stuck
noncomputable def Res.bind {α β : Type} (r : Res α) (f : α → Sto → Res β) : Res β :=
  match r with
  | .ok a st => f a st
  | .exc c st => .exc c st
  | .stuck => .stuck
noncomputable def Res.ofO {α : Type} (o : Option α) (st : Sto) : Res α :=
  match o with
  | some a => .ok a st
  | none => .stuck

/-- where an exception can't be told of -/
noncomputable def Res.calm {α : Type} (r : Res α) : Res α :=
  match r with
  | .exc _ _ => .stuck
  | r => r
theorem Res.bind_ok {α β : Type} (a : α) (st : Sto) (f : α → Sto → Res β) : (Res.ok a st).bind f = f a st := rfl
theorem Res.bind_exc {α β : Type} (c : Nat) (st : Sto) (f : α → Sto → Res β) : (Res.exc c st).bind f = .exc c st := rfl
theorem Res.bind_stuck {α β : Type} (f : α → Sto → Res β) : (Res.stuck : Res α).bind f = .stuck := rfl
theorem Res.ofO_some {α : Type} (a : α) (st : Sto) : Res.ofO (some a) st = .ok a st := rfl
theorem Res.ofO_none {α : Type} (st : Sto) : Res.ofO (none : Option α) st = .stuck := rfl

/-- a list by its location -/
noncomputable def deref (st : Sto) : PV → PV
  | .ref l => match st[l]? with
    | some (.lst xs) => .lst xs
    | _ => .ref l
  | v => v
noncomputable def derefs (st : Sto) : List PV → List PV
  | [] => []
  | v :: r => deref st v :: derefs st r

/-! ### operations on values -/
noncomputable def SZ : Nat := 16777216
theorem SZ_eq : SZ = sizeLine := rfl

noncomputable def addV : PV → PV → Option PV
  | .int i, .int j => some (.int (i + j))
  | .str a, .str b => if a.length + b.length ≤ SZ then some (.str (a ++ b)) else none
  | .tup a, .tup b => if a.length + b.length ≤ SZ then some (.tup (a ++ b)) else none
  | .lst a, .lst b => if a.length + b.length ≤ SZ then some (.lst (a ++ b)) else none
  | _, _ => none
noncomputable def subV : PV → PV → Option PV
  | .int i, .int j => some (.int (i - j))
  | _, _ => none
noncomputable def small64 (i : Int) : Bool := decide (-(2 ^ 64) < i) && decide (i < 2 ^ 64)
noncomputable def mulV : PV → PV → Option PV
  | .int i, .int j => if small64 i || small64 j then some (.int (i * j)) else none
  | .str a, .int k => if k < 2 ^ 62 ∧ -(2 ^ 62) < k ∧ a.length * k.toNat ≤ SZ then some (.str (List.replicate k.toNat a).flatten) else none
  | .tup a, .int k => if k ≤ 1000 ∧ -(2 ^ 62) < k ∧ a.length ≤ 1000 ∧ a.isEmpty = false then some (.tup (List.replicate k.toNat a).flatten) else none
  | .lst a, .int k => if k < 2 ^ 62 ∧ -(2 ^ 62) < k ∧ a.length * k.toNat ≤ SZ then some (.lst (List.replicate k.toNat a).flatten) else none
  | _, _ => none
noncomputable def fdivV : PV → PV → Option PV
  | .int i, .int j => if 0 < j ∧ j < 1073741824 then some (.int (i / j)) else none
  | _, _ => none
noncomputable def modV : PV → PV → Option PV
  | .int i, .int j => if 0 < j then some (.int (i % j)) else none
  | _, _ => none
noncomputable def binV : Operator → PV → PV → Option PV
  | .Add, a, b => addV a b
  | .Sub, a, b => subV a b
  | .Mult, a, b => mulV a b
  | .FloorDiv, a, b => fdivV a b
  | .Mod, a, b => modV a b
  | _, _, _ => none

noncomputable def eqV : PV → PV → Option Bool
  | .int i, .int j => some (decide (i = j))
  | .str a, .str b => some (decide (a = b))
  | a, b => if a.okD && b.okD then some (PyData.eqv a.toD b.toD) else none
noncomputable def ltV : PV → PV → Option Bool
  | .int i, .int j => some (decide (i < j))
  | _, _ => none
noncomputable def leV : PV → PV → Option Bool
  | .int i, .int j => some (decide (i ≤ j))
  | _, _ => none
/-- tuples of data too -/
noncomputable def ltS : PV → PV → Option Bool
  | .tup a, .tup b => if PV.areData a && PV.areData b && PySem.W.alike (PV.tup a).toD (PV.tup b).toD && decide (min (PV.tup a).toD.depth (PV.tup b).toD.depth ≤ 60) then some (PySem.W.dataLt (PV.tup a).toD (PV.tup b).toD) else none
  | a, b => ltV a b
/-- texts too -/
noncomputable def leS : PV → PV → Option Bool
  | .str a, .str b => some (!decide (b < a))
  | a, b => leV a b
noncomputable def isV : PV → PV → Option Bool
  | .non, .non => some true
  | .ref _, .non => none
  | _, .non => some false
  | .bl a, .bl b => some (decide (a = b))
  | _, _ => none
/-- all texts -/
noncomputable def strsV : List PV → Option (List (List Nat))
  | [] => some []
  | .str s :: r => (strsV r).map (s :: ·)
  | _ :: _ => none
noncomputable def intsW : List PV → Option (List Int)
  | [] => some []
  | .int i :: r => (intsW r).map (i :: ·)
  | _ :: _ => none
noncomputable def inSeq (v : PV) (xs : List PV) : Option Bool := match v with
  | .str s => (strsV xs).map fun ts => decide (s ∈ ts)
  | .int i => (intsW xs).map fun ns => decide (i ∈ ns)
  | _ => none
/-- among data of any depth -/
noncomputable def inDeep (v c : PV) (xs : List PV) : Option Bool := if v.okD && c.okD then some ((PV.toDs xs).any fun z => PyData.eqv z v.toD) else none
noncomputable def inAny (v c : PV) (xs : List PV) : Option Bool := match v with
  | .str s => inSeq (.str s) xs
  | .int i => match inSeq (.int i) xs with
    | some k => some k
    | none => inDeep (.int i) c xs
  | v => inDeep v c xs
noncomputable def inV : PV → PV → Option Bool
  | .str [c], .str t => some (decide (c ∈ t))
  | v, .tup xs => inAny v (.tup xs) xs
  | v, .lst xs => inAny v (.lst xs) xs
  | _, _ => none
noncomputable def cmpV : CmpOp → PV → PV → Option Bool
  | .Eq, a, b => eqV a b
  | .NotEq, a, b => (eqV a b).map (!·)
  | .Lt, a, b => ltS a b
  | .LtE, a, b => leS a b
  | .Gt, a, b => ltV b a
  | .GtE, a, b => leV b a
  | .Is, a, b => isV a b
  | .IsNot, a, b => (isV a b).map (!·)
  | .In, a, b => inV a b
  | .NotIn, a, b => (inV a b).map (!·)

noncomputable def truV : PV → Option Bool
  | .non => some false
  | .bl b => some b
  | .int i => some (i != 0)
  | .str s => some (!s.isEmpty)
  | .tup xs => some (!xs.isEmpty)
  | .lst xs => some (!xs.isEmpty)
  | _ => none

noncomputable def atV : PV → PV → Option PV
  | .tup xs, .int i => L2.atI xs i
  | .lst xs, .int i => L2.atI xs i
  | .str s, .int i => (L2.atI s i).map fun c => .str [c]
  | .scr ns, .int i => (L2.atI ns i).map .int
  | _, _ => none
noncomputable def cutL {α : Type} (xs : List α) (lo hi : Option Int) : List α := (xs.drop (HT.sIx xs.length 0 lo)).take (HT.sIx xs.length xs.length hi - HT.sIx xs.length 0 lo)
noncomputable def slV : PV → Option Int → Option Int → Option PV
  | .tup xs, lo, hi => some (.tup (cutL xs lo hi))
  | .lst xs, lo, hi => some (.lst (cutL xs lo hi))
  | .str s, lo, hi => some (.str (cutL s lo hi))
  | _, _, _ => none

/-- all ints -/
noncomputable def intsV : List PV → Option (List Int)
  | [] => some []
  | .int i :: r => (intsV r).map (i :: ·)
  | _ :: _ => none
noncomputable def blsV : List PV → Option (List Bool)
  | [] => some []
  | .bl i :: r => (blsV r).map (i :: ·)
  | _ :: _ => none
noncomputable def maxI : List Int → Option Int
  | [] => none
  | i :: r => some (r.foldl max i)
noncomputable def minI : List Int → Option Int
  | [] => none
  | i :: r => some (r.foldl min i)

/-- built-ins by their name -/
inductive Bi where
  | len | max1 | max2 | min1 | min2 | sum | tuple | list | all | any | int | sorted
  deriving DecidableEq
noncomputable def Bi.name : Bi → Str
  | .len => "len" | .max1 => "max" | .max2 => "max" | .min1 => "min" | .min2 => "min" | .sum => "sum" | .tuple => "tuple" | .list => "list" | .all => "all" | .any => "any" | .int => "int" | .sorted => "sorted"
noncomputable def lenV : PV → Option PV
  | .str s => some (.int s.length)
  | .tup xs => some (.int xs.length)
  | .lst xs => some (.int xs.length)
  | .scr xs => some (.int xs.length)
  | _ => none
noncomputable def bLen : List PV → Option PV
  | [a] => lenV a
  | _ => none
noncomputable def bMax1 : List PV → Option PV
  | [.lst xs] => (intsV xs).bind fun ns => (maxI ns).map .int
  | _ => none
/-- data that can be put in order -/
noncomputable def ordOk (xs : List PV) : Bool := PV.areData xs && decide (PyData.depthAll (PV.toDs xs) ≤ 60) && (PV.toDs xs).all (fun x => (PV.toDs xs).all fun y => PySem.W.alike x y) && xs.all fun x => match x with | .non => false | _ => true
noncomputable def minV : List PV → Option PV
  | [] => none
  | x :: xs => if ordOk (x :: xs) then some (xs.foldl (fun a y => if PySem.W.dataLt y.toD a.toD then y else a) x) else none
noncomputable def bMin1 : List PV → Option PV
  | [.lst xs] => match intsV xs with
    | some ns => (minI ns).map .int
    | none => minV xs
  | _ => none
noncomputable def bMax2 : List PV → Option PV
  | [.int i, .int j] => some (.int (if j > i then j else i))
  | _ => none
noncomputable def bMin2 : List PV → Option PV
  | [.int i, .int j] => some (.int (if j < i then j else i))
  | _ => none
noncomputable def bSum : List PV → Option PV
  | [.lst xs] => (intsV xs).map fun ns => .int ns.sum
  | [.tup xs] => (intsV xs).map fun ns => .int ns.sum
  | _ => none
noncomputable def bTuple : List PV → Option PV
  | [.lst xs] => some (.tup xs)
  | [.tup xs] => some (.tup xs)
  | [.str s] => if s.length ≤ 1000000 then some (.tup (s.map fun c => .str [c])) else none
  | _ => none
noncomputable def bList : List PV → Option PV
  | [.lst xs] => some (.lst xs)
  | [.tup xs] => some (.lst xs)
  | _ => none
noncomputable def bAll : List PV → Option PV
  | [.lst xs] => (blsV xs).map fun bs => .bl (bs.all id)
  | _ => none
noncomputable def bAny : List PV → Option PV
  | [.lst xs] => (blsV xs).map fun bs => .bl (bs.any id)
  | _ => none
noncomputable def bInt : List PV → Option PV
  | [.int i] => some (.int i)
  | [.bl b] => some (.int (if b then 1 else 0))
  | _ => none
/-- data that can be sorted: tuples with an item at least, or none is a tuple or None -/
noncomputable def srtOk (xs : List PV) : Bool := PV.areData xs && decide (PyData.depthAll (PV.toDs xs) ≤ 60) && (PV.toDs xs).all (fun x => (PV.toDs xs).all fun y => PySem.W.alike x y) && decide (xs.length ≤ SZ) &&
  ((xs.all fun x => match x with | .tup (_ :: _) => true | _ => false) || (xs.all fun x => match x with | .non => false | .tup _ => false | _ => true))
noncomputable def leD (a b : PV) : Bool := !PySem.W.dataLt b.toD a.toD
noncomputable def bSorted : List PV → Option PV
  | [.lst xs] => if srtOk xs then some (.lst (xs.mergeSort leD)) else none
  | [.tup xs] => if decide (xs.length ≤ SZ) then (intsV xs).map fun ns => .lst ((ns.mergeSort fun a b => decide (a ≤ b)).map .int) else none
  | _ => none
noncomputable def biV : Bi → List PV → Option PV
  | .len, as => bLen as
  | .max1, as => bMax1 as
  | .min1, as => bMin1 as
  | .max2, as => bMax2 as
  | .min2, as => bMin2 as
  | .sum, as => bSum as
  | .tuple, as => bTuple as
  | .list, as => bList as
  | .all, as => bAll as
  | .any, as => bAny as
  | .int, as => bInt as
  | .sorted, as => bSorted as

/-- built-in types that are asked for -/
inductive Ty where
  | int | str | bool | tuple
  deriving DecidableEq
noncomputable def Ty.name : Ty → Str
  | .int => "int" | .str => "str" | .bool => "bool" | .tuple => "tuple"
noncomputable def isiB : PV → Ty → Option Bool
  | .int _, t => some (decide (t = .int))
  | .bl _, t => some (decide (t = .bool) || decide (t = .int))
  | .str _, t => some (decide (t = .str))
  | .tup _, t => some (decide (t = .tuple))
  | .non, _ => some false
  | .lst _, _ => some false
  | _, _ => none
/-- max of ints, or what is told of none -/
noncomputable def mxdV : PV → PV → Option PV
  | .lst xs, .int d => (intsV xs).map fun ns => .int ((maxI ns).getD d)
  | _, _ => none
/-- min of ints, or what is told of none -/
noncomputable def mndV : PV → PV → Option PV
  | .lst xs, .int d => (intsV xs).map fun ns => .int ((minI ns).getD d)
  | _, _ => none
/-- one of two defs, by a number -/
noncomputable def selB (f g : Nat) : PV → Option Nat
  | .int 0 => some f
  | .int 1 => some g
  | _ => none
/-- the other way about -/
noncomputable def rvV : PV → PV → Option PV
  | .tup xs, .int i => if i = -1 then some (.tup xs.reverse) else none
  | .lst xs, .int i => if i = -1 then some (.lst xs.reverse) else none
  | _, _ => none
/-- operations on one value -/
inductive U1 where
  | lns | upp | sss | trg | sti
  deriving DecidableEq
/-- each once -/
noncomputable def ddL {α : Type} [DecidableEq α] : List α → List α
  | [] => []
  | x :: r => if x ∈ ddL r then ddL r else x :: ddL r
/-- sorted(set(..)) of numbers, or of texts -/
noncomputable def ssL (xs : List PV) : Option PV := if xs.length + 1 < 4096 then match intsV xs with
  | some ns => some (.lst (((ddL ns).mergeSort fun a b => decide (a ≤ b)).map .int))
  | none => (strsV xs).map fun ts => .lst (((ddL ts).mergeSort fun a b => decide (a ≤ b)).map .str) else none
noncomputable def ssV : PV → Option PV
  | .tup xs => ssL xs
  | .lst xs => ssL xs
  | _ => none
/-- tuple(range(..)) -/
noncomputable def trgV : PV → Option PV
  | .int i => if -1000000 ≤ i ∧ i ≤ 1000000 then some (.tup ((List.range i.toNat).map fun k => .int (k : Nat))) else none
  | _ => none
/-- len(set(..)) of ints -/
noncomputable def lnsV : PV → Option PV
  | .lst xs => (intsV xs).bind fun ns => if ns.length + 1 < 4096 then some (.int ((ns.foldl PyProof.Rows.step_dedup []).length : Nat)) else none
  | _ => none
/-- a text in great letters -/
noncomputable def uppF (s : List Nat) : List Nat := (PySem.Txt.upper ⟨s.toArray⟩).cps.toList
noncomputable def uppV : PV → Option PV
  | .str s => if s.length ≤ 1000000 then some (.str (uppF s)) else none
  | _ => none
/-- str(i) of a number of one digit -/
noncomputable def stiV : PV → Option PV
  | .int i => if 0 ≤ i ∧ i < 10 then some (.str [48 + i.toNat]) else none
  | _ => none
noncomputable def u1V : U1 → PV → Option PV
  | .lns, v => lnsV v
  | .upp, v => uppV v
  | .sss, v => ssV v
  | .trg, v => trgV v
  | .sti, v => stiV v
/-- methods of texts, of one argument -/
inductive Sm1 where
  | join | split | rstrip | lstrip | strip
  deriving DecidableEq
noncomputable def Sm1.name : Sm1 → Str
  | .join => "join" | .split => "split" | .rstrip => "rstrip" | .lstrip => "lstrip" | .strip => "strip"
noncomputable def ofL (a : List Nat) : Str := ⟨a.toArray⟩
noncomputable def rsF (a b : List Nat) : List Nat := (Txt.rstripChars (ofL a) (ofL b)).cps.toList
noncomputable def lsF (a b : List Nat) : List Nat := (Txt.lstripChars (ofL a) (ofL b)).cps.toList
noncomputable def ssF (a b : List Nat) : List Nat := (Txt.stripChars (ofL a) (ofL b)).cps.toList
noncomputable def joV (a : List Nat) (ys : List PV) : Option PV := (strsV ys).bind fun ts => if (ts.map List.length).sum + ts.length * a.length ≤ 16777216 then some (.str (TL.joinL a ts)) else none
noncomputable def smV : Sm1 → List Nat → PV → Option PV
  | .join, a, .lst ys => joV a ys
  | .join, a, .tup ys => joV a ys
  | .split, a, .str b => if b.length = 1 ∧ b.all (fun c => decide (c < 256)) = true ∧ a.length + 2 ≤ SZ ∧ (TL.spl b 0 [] a).all (fun p => decide (p.length ≤ SZ)) = true then some (.lst ((TL.spl b 0 [] a).map .str)) else none
  | .rstrip, a, .str b => some (.str (rsF a b))
  | .lstrip, a, .str b => some (.str (lsF a b))
  | .strip, a, .str b => some (.str (ssF a b))
  | _, _, _ => none
/-- isinstance of one or two types -/
noncomputable def isiV (v : PV) : List Ty → Option Bool
  | [t] => isiB v t
  | [t, u] => (isiB v t).bind fun a => (isiB v u).map fun b => a || b
  | _ => none
/-- methods of lists that write -/
inductive Mth where
  | append | extend | pop
  deriving DecidableEq
noncomputable def Mth.name : Mth → Str
  | .append => "append" | .extend => "extend" | .pop => "pop"
noncomputable def mthV : Mth → PV → List PV → Sto → Res PV
  | .append, .ref l, [v], st => match st[l]? with
    | some (.lst xs) => if xs.length < SZ then .ok .non (st.set l (.lst (xs ++ [v]))) else .stuck
    | _ => .stuck
  | .extend, .ref l, [v], st => match st[l]?, deref st v with
    | some (.lst xs), .lst ys => if xs.length + ys.length ≤ SZ then .ok .non (st.set l (.lst (xs ++ ys))) else .stuck
    | _, _ => .stuck
  | .pop, .ref l, [], st => match st[l]? with
    | some (.lst xs) => match xs[xs.length - 1]? with
      | some v => .ok v (st.set l (.lst xs.dropLast))
      | none => .stuck
    | _ => .stuck
  | .pop, .ref l, [.int i], st => match st[l]? with
    | some (.lst xs) => match L2.ixN xs.length i with
      | some k => match xs[k]? with
        | some v => .ok v (st.set l (.lst (xs.eraseIdx k)))
        | none => .stuck
      | none => .stuck
    | _ => .stuck
  | _, _, _, _ => .stuck
noncomputable def liveL : PV → Sto → Bool
  | .ref l, st => match st[l]? with
    | some (.lst _) => true
    | _ => false
  | _, _ => false
/-- a list is read for good -/
noncomputable def fzV : PV → Sto → Res PV
  | .ref l, st => match st[l]? with
    | some (.lst xs) => .ok (.lst xs) (st.set l .dead)
    | _ => .stuck
  | v, st => .ok v st

/-! ### the language -/
mutual
inductive Tg where
  | nm (i : Nat) | tp (ts : Tgs)
inductive Tgs where
  | nil | cons (t : Tg) (r : Tgs)
end
mutual
noncomputable def asgT : Tg → PV → Env → Option Env
  | .nm i, v, e => some (e.set i (some v))
  | .tp ts, .tup vs, e => asgTs ts vs e
  | .tp ts, .lst vs, e => asgTs ts vs e
  | .tp _, _, _ => none
noncomputable def asgTs : Tgs → List PV → Env → Option Env
  | .nil, [], e => some e
  | .cons t r, v :: vs, e => (asgT t v e).bind fun e' => asgTs r vs e'
  | _, _, _ => none
end

mutual
inductive PX where
  | var (i : Nat)
  | cst (v : PV)
  | glb (x : Str) (v : PV)
  | tup (es : PXs)
  | lst (es : PXs)
  | bin (op : Operator) (a b : PX)
  | cmp (op : CmpOp) (a b : PX)
  | cmp2 (op op' : CmpOp) (a b c : PX)
  | bop (op : BoolOp) (es : PXs)
  | nt (a : PX)
  | neg (a : PX)
  | ite (c : PT) (a b : PX)
  | sub (a i : PX)
  | slc (a : PX) (lo hi : PO)
  | call (f : Nat) (es : PXs)
  | bi (b : Bi) (es : PXs)
  | comp (own : List Nat) (t : Tg) (s : Src) (c : PT) (e : PX)
  | nlst (es : PXs)
  | nof (a : PX)
  | ncat (a b : PX)
  | fz (a : PX)
  | mth (m : Mth) (a : PX) (es : PXs)
  | isi (a : PX) (ts : List Ty)
  | sm (m : Sm1) (a b : PX)
  | rv (a b : PX)
  | mxd (a b : PX)
  | u1 (op : U1) (a : PX)
  | att (a : PX) (C f : Str)
  | met (a : PX) (C m : Str) (i : Nat) (es : PXs)
  | mk (C : Str) (i : Nat) (es : PXs)
  | nd (t : Bool)
  | dgt (t : Bool) (a : PX) (ks : PXs) (x : PX)
  | dat (t : Bool) (a : PX) (ks : PXs)
  | din (t n : Bool) (ks : PXs) (a : PX)
  | orv (a b : PX)
  | ncomp (own : List Nat) (t : Tg) (s : Src) (c : PT) (e : PX)
  | dsd (a k x : PX)
  | ndl (es : PXs)
  | mnd (a b : PX)
  | csel (f g : Nat) (i : PX) (es : PXs)
  | dav (a k : PX)
  | ndc (a : PX)
inductive PXs where
  | nil | cons (a : PX) (r : PXs)
/-- a part of a slice -/
inductive PO where
  | no | some (a : PX)
/-- what is walked -/
inductive Src where
  | seq (e : PX) | rng (es : PXs) | enum (e : PX) | zip (a b : PX) | dk (e : PX)
/-- a test; yes: none is written -/
inductive PT where
  | yes | val (a : PX) | cmp (op : CmpOp) (a b : PX) | cmp2 (op op' : CmpOp) (a b c : PX) | bop (op : BoolOp) (ts : PTs) | nt (t : PT) | din (n : Bool) (k a : PX) | dnv (n : Bool) (k a : PX)
inductive PTs where
  | nil | cons (a : PT) (r : PTs)
end

/-- the items of a thing that is walked -/
noncomputable def itV : PV → Option (List PV)
  | .tup xs => some xs
  | .lst xs => some xs
  | .str s => some (s.map fun c => .str [c])
  | _ => none
noncomputable def small62 (i : Int) : Bool := decide (-(2 ^ 62) ≤ i) && decide (i < 2 ^ 62)
/-- lo, lo + c, .. (n of them) -/
noncomputable def rngL (lo c : Int) (n : Nat) : List PV := (List.range n).map fun (i : Nat) => .int (lo + (i : Int) * c)
noncomputable def rngV : List PV → Option (List PV)
  | [.int n] => if small62 n then some (rngL 0 1 n.toNat) else none
  | [.int a, .int b] => if small62 a && small62 b then some (rngL a 1 (b - a).toNat) else none
  | [.int a, .int b, .int c] => if (decide (c ≠ 0) && decide (c.natAbs < 1073741824)) && (Builtin.Range.small a b c && decide (0 ≤ Builtin.Range.rangeSize a b c)) then some (rngL a c (Builtin.Range.rangeSize a b c).toNat) else none
  | _ => none
noncomputable def enumL : Nat → List PV → List PV
  | _, [] => []
  | k, x :: r => .tup [.int k, x] :: enumL (k + 1) r
noncomputable def zipL : List PV → List PV → List PV
  | x :: r, y :: s => .tup [x, y] :: zipL r s
  | _, _ => []

noncomputable def compL (f : PV → Sto → Res (Option PV)) : List PV → Sto → Res (List PV)
  | [], st => .ok [] st
  | x :: xs, st => (f x st).bind fun o st1 => (compL f xs st1).bind fun r st2 => .ok (o.toList ++ r) st2

noncomputable def wipeR (e : Env) : List Nat → Env
  | [] => e
  | v :: vs => (wipeR e vs).set v none

noncomputable def ivO : PV → Option (Option Int)
  | .int i => some (some i)
  | _ => none

noncomputable abbrev CF := Nat → List PV → Sto → Res PV
/-- an object by its location -/
noncomputable def objAt (st : Sto) : PV → Option (Str × Flds)
  | .ref l => match st[l]? with
    | some (.obj C fs) => some (C, fs)
    | _ => none
  | _ => none
/-- a dict by its location -/
noncomputable def dctAt (t : Bool) (st : Sto) : PV → Option DC
  | .ref l => match st[l]? with
    | some (.dct u kvs) => if u = t then some kvs else none
    | _ => none
  | _ => none
/-- a dict whose keys are tuples, by its location, locked or not -/
noncomputable def dctW (st : Sto) : PV → Option DC
  | .ref l => match st[l]? with
    | some (.dct true kvs) => some kvs
    | some (.fdc kvs) => some kvs
    | _ => none
  | _ => none
noncomputable def kysI : List PV → Option (List KP)
  | [] => some []
  | .int i :: r => (kysI r).map (.inl i :: ·)
  | _ :: _ => none
/-- a tuple of numbers as a key -/
noncomputable def tupK : PV → Option (List KP)
  | .tup vs => kysI vs
  | _ => none
noncomputable def unK : List KP → Option (List PV)
  | [] => some []
  | .inl i :: r => (unK r).map (.int i :: ·)
  | .inr _ :: _ => none
/-- the keys of a locked dict -/
noncomputable def dkL : DC → Option (List PV)
  | [] => some []
  | (k, _) :: r => (unK k).bind fun vs => (dkL r).map (.tup vs :: ·)
noncomputable def fdcAt (st : Sto) : PV → Option DC
  | .ref l => match st[l]? with
    | some (.fdc kvs) => some kvs
    | _ => none
  | _ => none
/-- behind a lock -/
noncomputable def unS (l : Nat) (st : Sto) : Option Sto := match st[l]? with
  | some (.fdc kvs) => some (st.set l (.dct true kvs))
  | _ => none
/-- pairs of a key and a value -/
noncomputable def prsL : List PV → Option DC
  | [] => some []
  | .tup [k, v] :: r => (tupK k).bind fun ky => (prsL r).map ((ky, v) :: ·)
  | _ => none
noncomputable def prsV : PV → Option DC
  | .lst xs => prsL xs
  | _ => none
/-- an entry is stored -/
noncomputable def dsetV (t : Bool) (y : PV) (k : List KP) (st : Sto) : PV → Option Sto
  | .ref l => match st[l]? with
    | some (.dct u kvs) => if u = t ∧ kvs.length < SZ then some (st.set l (.dct u (dput kvs k y))) else none
    | _ => none
  | _ => none
/-- keys and values by turns -/
noncomputable def upP : List PV → Option DC
  | [] => some []
  | k :: v :: r => (kyV k).bind fun ky => (upP r).map (([ky], v) :: ·)
  | _ => none
noncomputable def ndlE (l : Nat) (st : Sto) : Option DC → Res PV
  | some kvs => match st[l]? with
    | some (.dct false []) => if kvs.length ≤ 15 then .ok (.ref l) (st.set l (.dct false (kvs.foldl (fun a p => dput a p.1 p.2) []))) else .stuck
    | _ => .stuck
  | none => .stuck
noncomputable def dsdE (y o : PV) (k : List KP) (st : Sto) : Option DC → Res PV
  | some kvs => if kvs.length < SZ then (match dlook kvs k with
    | some v => .ok v st
    | none => match dsetV false y k st o with
      | some st5 => .ok y st5
      | none => .stuck) else .stuck
  | none => .stuck
/-- a new object, behind its __init__ -/
noncomputable def mkEnd (l : Nat) : Res PV → Res PV
  | .ok .non st => .ok (.ref l) st
  | _ => .stuck
/-- an attribute is stored -/
noncomputable def satV (C f : Str) (y : PV) (st : Sto) : PV → Option Sto
  | .ref l => match st[l]? with
    | some (.obj D fs) => if D = C ∧ fs.length < 1000 then some (st.set l (.obj D (putP f y fs))) else none
    | _ => none
  | _ => none

mutual
noncomputable def ev (cf : CF) : PX → Env → Sto → Res PV
  | .var i, e, st => match e[i]? with
    | some (some v) => .ok v st
    | _ => .stuck
  | .cst v, _, st => .ok v st
  | .glb _ v, _, st => .ok v st
  | .tup es, e, st => (evs cf es e st).bind fun vs st1 => if vs.length ≤ SZ then .ok (.tup vs) st1 else .stuck
  | .lst es, e, st => (evs cf es e st).bind fun vs st1 => if vs.length ≤ SZ then .ok (.lst vs) st1 else .stuck
  | .bin op a b, e, st => (ev cf a e st).bind fun x st1 => (ev cf b e st1).bind fun y st2 => .ofO (binV op (deref st2 x) (deref st2 y)) st2
  | .cmp op a b, e, st => (ev cf a e st).bind fun x st1 => (ev cf b e st1).bind fun y st2 => .ofO ((cmpV op (deref st2 x) (deref st2 y)).map .bl) st2
  | .cmp2 op op' a b c, e, st => (ev cf a e st).bind fun x st1 => (ev cf b e st1).bind fun y st2 => (Res.ofO (cmpV op (deref st2 x) (deref st2 y)) st2).bind fun k st3 =>
      if k then (ev cf c e st3).bind fun z st4 => .ofO ((cmpV op' (deref st4 y) (deref st4 z)).map .bl) st4 else .ok (.bl false) st3
  | .bop op es, e, st => evB cf op es e st
  | .nt a, e, st => (ev cf a e st).bind fun x st1 => match x with
    | .bl b => .ok (.bl (!b)) st1
    | _ => .stuck
  | .neg a, e, st => (ev cf a e st).bind fun x st1 => match x with
    | .int i => .ok (.int (-i)) st1
    | _ => .stuck
  | .ite c a b, e, st => (evT cf c e st).bind fun k st1 => if k then ev cf a e st1 else ev cf b e st1
  | .sub a i, e, st => (ev cf a e st).bind fun x st1 => (ev cf i e st1).bind fun y st2 => .ofO (atV (deref st2 x) y) st2
  | .slc a lo hi, e, st => (ev cf a e st).bind fun x st1 => (evO cf lo e st1).bind fun l st2 => (evO cf hi e st2).bind fun h st3 => .ofO (slV (deref st3 x) l h) st3
  | .call f es, e, st => (evs cf es e st).bind fun vs st1 => cf f vs st1
  | .bi b es, e, st => (evs cf es e st).bind fun vs st1 => .ofO (biV b (derefs st1 vs)) st1
  | .comp own t s c el, e, st => (evI cf s e st).bind fun items st1 =>
      if items.length ≤ SZ then
        (compL (fun x st2 => match asgT t x (wipeR e own) with
          | none => .stuck
          | some e1 => (evT cf c e1 st2).bind fun b st3 => if b then (ev cf el e1 st3).bind fun v st4 => .ok (some v) st4 else .ok none st3) items st1).calm.bind fun vs st2 => .ok (.lst vs) st2
      else .stuck
  | .nlst es, e, st => (evs cf es e st).bind fun vs st1 => if vs.length ≤ SZ then .ok (.ref st1.length) (st1 ++ [.lst vs]) else .stuck
  | .nof a, e, st => (ev cf a e st).bind fun x st1 => match bList [deref st1 x] with
    | some (.lst xs) => .ok (.ref st1.length) (st1 ++ [.lst xs])
    | _ => .stuck
  | .ncat a b, e, st => (ev cf a e st).bind fun x st1 => (ev cf b e st1).bind fun y st2 => match addV (deref st2 x) (deref st2 y) with
    | some (.lst xs) => .ok (.ref st2.length) (st2 ++ [.lst xs])
    | _ => .stuck
  | .fz a, e, st => (ev cf a e st).bind fun x st1 => fzV x st1
  | .mth m a es, e, st => (ev cf a e st).bind fun x st1 => if liveL x st1 then (evs cf es e st1).bind fun vs st2 => mthV m x vs st2 else .stuck
  | .isi a ts, e, st => (ev cf a e st).bind fun x st1 => .ofO ((isiV (deref st1 x) ts).map .bl) st1
  | .mxd a b, e, st => (ev cf a e st).bind fun x st1 => (ev cf b e st1).bind fun y st2 => .ofO (mxdV (deref st2 x) y) st2
  | .att a C f, e, st => (ev cf a e st).bind fun x st1 => .ofO ((objAt st1 x).bind fun o => if o.1 = C then o.2.lookup f else none) st1
  | .met a C m i es, e, st => (ev cf a e st).bind fun x st1 => match objAt st1 x with
    | some (D, fs) => if D = C ∧ fs.lookup m = none then (evs cf es e st1).bind fun vs st2 => cf i (x :: vs) st2 else .stuck
    | none => .stuck
  | .mk C i es, e, st => (evs cf es e st).bind fun vs st1 => mkEnd st1.length (cf i (.ref st1.length :: vs) (st1 ++ [.obj C []]))
  | .mnd a b, e, st => (ev cf a e st).bind fun x st1 => (ev cf b e st1).bind fun y st2 => .ofO (mndV (deref st2 x) y) st2
  | .csel f g i es, e, st => (ev cf i e st).bind fun x st1 => (Res.ofO (selB f g x) st1).bind fun j st2 => (evs cf es e st2).bind fun vs st3 => cf j vs st3
  | .u1 op a, e, st => (ev cf a e st).bind fun x st1 => .ofO (u1V op (deref st1 x)) st1
  | .nd t, _, st => .ok (.ref st.length) (st ++ [.dct t []])
  | .dgt t a ks x, e, st => (ev cf a e st).bind fun o st1 => if (dctAt t st1 o).isSome then (evs cf ks e st1).bind fun vs st2 => (Res.ofO (keyV t vs) st2).bind fun k st3 => (ev cf x e st3).bind fun y st4 => .ofO ((dctAt t st4 o).map fun kvs => (dlook kvs k).getD y) st4 else .stuck
  | .dat t a ks, e, st => (ev cf a e st).bind fun o st1 => (evs cf ks e st1).bind fun vs st2 => (Res.ofO (keyV t vs) st2).bind fun k st3 => .ofO ((dctAt t st3 o).bind fun kvs => dlook kvs k) st3
  | .din t n ks a, e, st => (evs cf ks e st).bind fun vs st1 => (Res.ofO (keyV t vs) st1).bind fun k st2 => (ev cf a e st2).bind fun o st3 => .ofO ((dctAt t st3 o).map fun kvs => .bl ((dlook kvs k).isSome != n)) st3
  | .orv a b, e, st => (ev cf a e st).bind fun x st1 => (Res.ofO (truV (deref st1 x)) st1).bind fun k st2 => if k then .ok x st2 else ev cf b e st2
  | .ncomp own t s c el, e, st => (evI cf s e st).bind fun items st1 =>
      if items.length ≤ SZ then
        (compL (fun x st2 => match asgT t x (wipeR e own) with
          | none => .stuck
          | some e1 => (evT cf c e1 st2).bind fun b st3 => if b then (ev cf el e1 st3).bind fun v st4 => .ok (some v) st4 else .ok none st3) items st1).calm.bind fun vs st2 => .ok (.ref st2.length) (st2 ++ [.lst vs])
      else .stuck
  | .dsd a k x, e, st => (ev cf a e st).bind fun o st1 => if (dctAt false st1 o).isSome then (ev cf k e st1).bind fun kv st2 => (Res.ofO (keyV false [kv]) st2).bind fun ky st3 => (ev cf x e st3).bind fun y st4 => dsdE y o ky st4 (dctAt false st4 o) else .stuck
  | .ndl es, e, st => (evs cf es e (st ++ [.dct false []])).bind fun vs st1 => ndlE st.length st1 (upP vs)
  | .dav a k, e, st => (ev cf a e st).bind fun o st1 => (ev cf k e st1).bind fun kv st2 => (Res.ofO (tupK kv) st2).bind fun ky st3 => .ofO ((dctW st3 o).bind fun kvs => dlook kvs ky) st3
  | .ndc a, e, st => (ev cf a e st).bind fun x st1 => (Res.ofO (prsV x) st1).bind fun kvs st2 => if decide (kvs.length ≤ SZ) && decide (kvs.map (·.1)).Nodup then .ok (.ref st2.length) (st2 ++ [.dct true kvs]) else .stuck
  | .rv a b, e, st => (ev cf a e st).bind fun x st1 => (ev cf b e st1).bind fun y st2 => .ofO (rvV (deref st2 x) y) st2
  | .sm m a b, e, st => (ev cf a e st).bind fun x st1 => match x with
    | .str s => (ev cf b e st1).bind fun y st2 => .ofO (smV m s (deref st2 y)) st2
    | _ => .stuck
noncomputable def evs (cf : CF) : PXs → Env → Sto → Res (List PV)
  | .nil, _, st => .ok [] st
  | .cons a r, e, st => (ev cf a e st).bind fun x st1 => (evs cf r e st1).bind fun xs st2 => .ok (x :: xs) st2
/-- and, or as a value -/
noncomputable def evB (cf : CF) (op : BoolOp) : PXs → Env → Sto → Res PV
  | .nil, _, _ => .stuck
  | .cons a .nil, e, st => ev cf a e st
  | .cons a r, e, st => (ev cf a e st).bind fun x st1 => match x with
    | .bl b => match op, b with
      | .And, true => evB cf op r e st1
      | .And, false => .ok (.bl false) st1
      | .Or, true => .ok (.bl true) st1
      | .Or, false => evB cf op r e st1
    | _ => .stuck
/-- a test -/
noncomputable def evT (cf : CF) : PT → Env → Sto → Res Bool
  | .yes, _, st => .ok true st
  | .val p, e, st => (ev cf p e st).bind fun x st1 => .ofO (truV (deref st1 x)) st1
  | .cmp op a b, e, st => (ev cf a e st).bind fun x st1 => (ev cf b e st1).bind fun y st2 => .ofO (cmpV op (deref st2 x) (deref st2 y)) st2
  | .cmp2 op op' a b c, e, st => (ev cf a e st).bind fun x st1 => (ev cf b e st1).bind fun y st2 => (Res.ofO (cmpV op (deref st2 x) (deref st2 y)) st2).bind fun k st3 =>
      if k then (ev cf c e st3).bind fun z st4 => .ofO (cmpV op' (deref st4 y) (deref st4 z)) st4 else .ok false st3
  | .bop op es, e, st => evBT cf op es e st
  | .nt a, e, st => (evT cf a e st).bind fun b st1 => .ok (!b) st1
  | .din n k a, e, st => (ev cf k e st).bind fun kv st1 => (Res.ofO (keyV false [kv]) st1).bind fun ky st2 => (ev cf a e st2).bind fun o st3 => .ofO ((dctAt false st3 o).map fun kvs => ((dlook kvs ky).isSome != n)) st3
  | .dnv n k a, e, st => (ev cf k e st).bind fun kv st1 => (Res.ofO (tupK kv) st1).bind fun ky st2 => (ev cf a e st2).bind fun o st3 => .ofO ((dctW st3 o).map fun kvs => ((dlook kvs ky).isSome != n)) st3
noncomputable def evBT (cf : CF) (op : BoolOp) : PTs → Env → Sto → Res Bool
  | .nil, _, _ => .stuck
  | .cons a .nil, e, st => evT cf a e st
  | .cons a r, e, st => (evT cf a e st).bind fun b st1 => match op, b with
      | .And, true => evBT cf op r e st1
      | .And, false => .ok false st1
      | .Or, true => .ok true st1
      | .Or, false => evBT cf op r e st1
/-- a part of a slice -/
noncomputable def evO (cf : CF) : PO → Env → Sto → Res (Option Int)
  | .no, _, st => .ok none st
  | .some p, e, st => (ev cf p e st).bind fun x st1 => .ofO (ivO x) st1
/-- what is walked -/
noncomputable def evI (cf : CF) : Src → Env → Sto → Res (List PV)
  | .seq a, e, st => (ev cf a e st).bind fun x st1 => .ofO (itV x) st1
  | .rng es, e, st => (evs cf es e st).bind fun vs st1 => .ofO (rngV vs) st1
  | .enum a, e, st => (ev cf a e st).bind fun x st1 => .ofO ((itV x).map (enumL 0)) st1
  | .zip a b, e, st => (ev cf a e st).bind fun x st1 => (ev cf b e st1).bind fun y st2 => .ofO ((itV x).bind fun xs => (itV y).map fun ys => zipL xs ys) st2
  | .dk a, e, st => (ev cf a e st).bind fun x st1 => .ofO ((fdcAt st1 x).bind dkL) st1
end

/-! ### statements -/
/-- the words of refusals, by number -/
noncomputable def wordS : Nat → Str
  | 1 => "no way"
  | 2 => "bad sum"
  | 3 => "no text"
  | 4 => "no picture"
  | 5 => "no room"
  | 6 => "no line"
  | 7 => "no deed"
  | _ => "wrong"
noncomputable def wordT (c : Nat) : List Nat := (wordS c).cps.toList
inductive PS where
  | skip
  | nev
  | wrd
  | tryW (b : PS) (ks : List Nat) (d ie i : Nat) (j : Option Nat)
  | seq (a b : PS)
  | asg (t : Tg) (e : PX)
  | par (is : List Nat) (es : PXs)
  | exp (e : PX)
  | ret (e : PX)
  | ite (c : PT) (a b : PS)
  | fr (t : Tg) (s : Src) (b : PS)
  | wh (c : PT) (b : PS)
  | frz (i : Nat) (s : PS)
  | lkd (i : Nat) (s : PS)
  | dsv (a k x : PX)
  | isc (a b : PX) (i : Nat) (d : PX) (s1 s2 : PS)
  | sat (a : PX) (C f : Str) (x : PX)
  | st1 (a i x : PX)
  | dst (t : Bool) (a : PX) (ks : PXs) (x : PX)
  | rse (c : Nat)
  | tryO (b : PS) (ks : List Nat) (d : Nat) (s : PS)
  | st2 (a i b j x : PX)
  | brk | cnt

inductive Out where
  | next (e : Env) (st : Sto) | brk (e : Env) (st : Sto) | cnt (e : Env) (st : Sto) | ret (v : PV) (st : Sto) | exc (c : Nat) (e : Env) (st : Sto) | stuck

noncomputable def Res.out {α : Type} (r : Res α) (e : Env) (f : α → Sto → Out) : Out :=
  match r with
  | .ok a st => f a st
  | .exc c st => .exc c e st
  | .stuck => .stuck

noncomputable def forL (f : PV → Env → Sto → Out) : List PV → Env → Sto → Out
  | [], e, st => .next e st
  | x :: xs, e, st => match f x e st with
    | .next e1 st1 => forL f xs e1 st1
    | .cnt e1 st1 => forL f xs e1 st1
    | .brk e1 st1 => .next e1 st1
    | .ret v st1 => .ret v st1
    | .exc c e1 st1 => .exc c e1 st1
    | .stuck => .stuck

/-- whether a clause of the class d takes an exception of the class c: 0 is above all -/
noncomputable def catches (c d : Nat) : Bool := decide (c = d) || decide (d = 0)
/-- a place of a list is written -/
noncomputable def setI (st : Sto) (v : PV) : PV → PV → Option Sto
  | .ref l, .int k => match st[l]? with
    | some (.lst xs) => (L2.ixN xs.length k).map fun j => st.set l (.lst (xs.set j v))
    | _ => none
  | _, _ => none
noncomputable def sto1 (cf : CF) (a i : PX) (e : Env) (v : PV) (st : Sto) (f : Sto → Out) : Out :=
  (ev cf a e st).out e fun o st1 => (ev cf i e st1).out e fun k st2 => match setI st2 v o k with
    | some st3 => f st3
    | none => .stuck
noncomputable def whL (c : Env → Sto → Res Bool) (f : Env → Sto → Out) : Nat → Env → Sto → Out
  | 0, _, _ => .stuck
  | n + 1, e, st => (c e st).out e fun b st0 => if b then (match f e st0 with
    | .next e1 st1 => whL c f n e1 st1
    | .cnt e1 st1 => whL c f n e1 st1
    | .brk e1 st1 => .next e1 st1
    | .ret v st1 => .ret v st1
    | .exc c e1 st1 => .exc c e1 st1
    | .stuck => .stuck) else .next e st0

noncomputable def WH : Nat := 1000000000

noncomputable def setAll : List Nat → List PV → Env → Option Env
  | [], [], e => some e
  | i :: is, v :: vs, e => setAll is vs (e.set i (some v))
  | _, _, _ => none

/-- the word of a refusal: told, or kept in a slot -/
noncomputable def wordE (j : Option Nat) (ie c : Nat) (e : Env) (st : Sto) : Out := match j with
  | none => .ret (.str (wordT c)) st
  | some j => .next ((e.set j (some (.str (wordT c)))).set ie none) st
/-- a tuple of so many texts -/
noncomputable def strT (n : Nat) : PV → Option (List (List Nat))
  | .tup xs => if xs.length ≤ n then strsV xs else none
  | _ => none
noncomputable def strO : Option (Option PV) → Option (List Nat)
  | some (some (.str z)) => some z
  | _ => none
/-- set(xs) != set(ys) - {z} | set(us) -/
noncomputable def scB (xs ys : List (List Nat)) (z : List Nat) (us : List (List Nat)) : Bool :=
  !(xs.all (fun x => decide (x ∈ (ys.filter fun y => decide (y ≠ z)) ++ us)) && ((ys.filter fun y => decide (y ≠ z)) ++ us).all fun y => decide (y ∈ xs))
noncomputable def unO (l : Nat) : Out → Out
  | .next e st => (match unS l st with
    | some st1 => .next e st1
    | none => .stuck)
  | .brk e st => (match unS l st with
    | some st1 => .brk e st1
    | none => .stuck)
  | .cnt e st => (match unS l st with
    | some st1 => .cnt e st1
    | none => .stuck)
  | .ret v st => (match unS l st with
    | some st1 => .ret v st1
    | none => .stuck)
  | _ => .stuck
noncomputable def lkE (st : Sto) (o : Option (Option PV)) (f : Nat → Sto → Out) : Out := match o with
  | some (some (.ref l)) => (match st[l]? with
    | some (.dct true kvs) => unO l (f l (st.set l (.fdc kvs)))
    | _ => .stuck)
  | _ => .stuck
noncomputable def run (cf : CF) : PS → Env → Sto → Out
  | .skip, e, st => .next e st
  | .nev, _, _ => .stuck
  | .wrd, _, _ => .stuck
  | .tryW b ks d ie _ j, e, st => match run cf b e st with
    | .exc c e1 st1 => if decide (c ∈ ks) && catches c d then wordE j ie c e1 st1 else .stuck
    | o => o
  | .seq a b, e, st => match run cf a e st with
    | .next e1 st1 => run cf b e1 st1
    | .brk e1 st1 => .brk e1 st1
    | .cnt e1 st1 => .cnt e1 st1
    | .ret v st1 => .ret v st1
    | .exc c e1 st1 => .exc c e1 st1
    | .stuck => .stuck
  | .asg t x, e, st => (ev cf x e st).out e fun v st1 => match asgT t v e with
    | some e1 => .next e1 st1
    | none => .stuck
  | .par is es, e, st => (evs cf es e st).out e fun vs st1 => match setAll is vs e with
    | some e1 => .next e1 st1
    | none => .stuck
  | .exp x, e, st => (ev cf x e st).out e fun _ st1 => .next e st1
  | .ret x, e, st => (ev cf x e st).out e fun v st1 => .ret v st1
  | .ite c a b, e, st => (evT cf c e st).out e fun k st1 => if k then run cf a e st1 else run cf b e st1
  | .fr t s b, e, st => (evI cf s e st).out e fun items st1 => forL (fun x e1 st2 => match asgT t x e1 with
      | none => .stuck
      | some e2 => run cf b e2 st2) items e st1
  | .frz i s, e, st => match e[i]? with
    | some (some (.ref l)) => match st[l]? with
      | some (.lst xs) => run cf s (e.set i (some (.lst xs))) (st.set l .dead)
      | _ => .stuck
    | _ => .stuck
  | .lkd i s, e, st => lkE st e[i]? fun _ st1 => run cf s e st1
  | .isc a b i d s1 s2, e, st => (ev cf a e st).out e fun x st1 => (Res.ofO (strT 1000 x) st1).out e fun xs st2 => (ev cf b e st2).out e fun y st3 => (Res.ofO (strT 7 y) st3).out e fun ys st4 =>
    (Res.ofO (strO e[i]?) st4).out e fun z st5 => (ev cf d e st5).out e fun u st6 => (Res.ofO (strT (15 - ys.length) u) st6).out e fun us st7 => if scB xs ys z us = true then run cf s1 e st7 else run cf s2 e st7
  | .dsv a k x, e, st => (ev cf x e st).out e fun y st1 => (ev cf a e st1).out e fun o st2 => (ev cf k e st2).out e fun kv st3 => (Res.ofO (tupK kv) st3).out e fun ky st4 => match dsetV true y ky st4 o with
    | some st5 => .next e st5
    | none => .stuck
  | .sat a C f x, e, st => (ev cf x e st).out e fun y st1 => (ev cf a e st1).out e fun o st2 => match satV C f y st2 o with
    | some st3 => .next e st3
    | none => .stuck
  | .dst t a ks x, e, st => (ev cf x e st).out e fun y st1 => (ev cf a e st1).out e fun o st2 => (evs cf ks e st2).out e fun vs st3 => (Res.ofO (keyV t vs) st3).out e fun k st4 => match dsetV t y k st4 o with
    | some st5 => .next e st5
    | none => .stuck
  | .rse c, e, st => .exc c e st
  | .tryO b ks d s, e, st => match run cf b e st with
    | .exc c e1 st1 => if decide (c ∈ ks) then (if catches c d then run cf s e1 st1 else .exc c e1 st1) else .stuck
    | o => o
  | .st1 a i x, e, st => (ev cf x e st).out e fun v st1 => sto1 cf a i e v st1 fun st2 => .next e st2
  | .st2 a i b j x, e, st => (ev cf x e st).out e fun v st1 => match v with
    | .tup [y, z] => sto1 cf a i e y st1 fun st2 => sto1 cf b j e z st2 fun st3 => .next e st3
    | _ => .stuck
  | .wh c b, e, st => whL (fun e1 st1 => evT cf c e1 st1) (fun e1 st1 => run cf b e1 st1) WH e st
  | .brk, e, st => .brk e st
  | .cnt, e, st => .cnt e st

/-! ### defs -/
structure Dd where
  name : Str
  ps : List Str
  N : List Str
  body : PS
  cls : Str
  qual : Str

/-- cells that were there: as they were, or without new locations -/
noncomputable def oldOk (n : Nat) : Sto → Sto → Bool
  | [], _ => true
  | c :: r, d :: s => (Cell.beq c d || Cell.under n d) && oldOk n r s
  | _ :: _, [] => false
/-- behind a call: what was made and can't be reached goes -/
noncomputable def fin (st0 : Sto) (v : PV) (st : Sto) : Res PV := if v.under st0.length && oldOk st0.length st0 st then .ok v (st.take st0.length) else .ok v st
noncomputable def finX (st0 : Sto) (c : Nat) (st : Sto) : Res PV := if oldOk st0.length st0 st then .exc c (st.take st0.length) else .exc c st
noncomputable def start (d : Dd) (args : List PV) : Env := args.map some ++ List.replicate (d.N.length - args.length) none
noncomputable def runD (cf : CF) (d : Dd) (args : List PV) (st : Sto) : Res PV :=
  if args.length = d.ps.length then
    match run cf d.body (start d args) st with
    | .ret v st1 => fin st v st1
    | .next _ st1 => fin st .non st1
    | .exc c _ st1 => finX st c st1
    | _ => .stuck
  else .stuck
noncomputable abbrev Tab := List (Nat × Dd)
noncomputable def callF (T : Tab) : Nat → CF
  | 0, _, _, _ => .stuck
  | n + 1, i, args, st => match T.lookup i with
    | none => .stuck
    | some d => runD (callF T n) d args st
end PL

/-! PL2: worlds, how values and stores are borne by the abstract heap. -/
namespace PL
open PySem L2

/-- m: the live locations; p: lists that are being made and that no value bears yet -/
structure Wd where
  m : List (Option Addr)
  p : List Addr
  H : Hp

/-- the world grows: what is no live location is never written -/
structure Wd.le0 (w w' : Wd) : Prop where
  len : w.m.length ≤ w'.m.length
  loc : ∀ (l : Nat) (a : Addr), w.m[l]? = some (some a) → w'.m[l]? = some (some a) ∨ w'.m[l]? = some none
  dead : ∀ l : Nat, w.m[l]? = some none → w'.m[l]? = some none
  keep : ∀ a o, w.H a = some o → some a ∉ w.m → w'.H a = some o
  fresh : ∀ a, some a ∈ w'.m → some a ∈ w.m ∨ w.H a = none
  priv : ∀ a, a ∈ w.p → a ∈ w'.p
  freshp : ∀ a, a ∈ w'.p → a ∈ w.p ∨ w.H a = none
  trk : ∀ a o, w.H a = some o → ∃ o', w'.H a = some o'
/-- and what is locked stays -/
structure Wd.le (w w' : Wd) : Prop extends toLe0 : Wd.le0 w w' where
  lck : ∀ a o u, w.H a = some (.frz o u) → w'.H a = some (.frz o u)

theorem Wd.le.refl (w : Wd) : w.le w := ⟨⟨Nat.le_refl _, fun _ _ h => .inl h, fun _ h => h, fun _ _ h _ => h, fun _ h => .inl h, fun _ h => h, fun _ h => .inl h, fun _ o h => ⟨o, h⟩⟩, fun _ _ _ h => h⟩
theorem Wd.le0.refl (w : Wd) : w.le0 w := (Wd.le.refl w).toLe0
theorem Wd.le0.trans {a b c : Wd} (h : a.le0 b) (k : b.le0 c) : a.le0 c where
  len := Nat.le_trans h.len k.len
  loc := fun l x e => by
    rcases h.loc l x e with e | e
    · exact k.loc l x e
    · exact .inr (k.dead l e)
  dead := fun l e => k.dead l (h.dead l e)
  keep := fun x o e n => k.keep x o (h.keep x o e n) fun z => by
    rcases h.fresh x z with z | z
    · exact n z
    · rw [e] at z; cases z
  fresh := fun x e => by
    rcases k.fresh x e with z | z
    · exact h.fresh x z
    · cases q : a.H x with
      | none => exact .inr rfl
      | some o =>
        obtain ⟨o', e'⟩ := h.trk x o q
        rw [z] at e'; cases e'
  priv := fun x e => k.priv x (h.priv x e)
  freshp := fun x e => by
    rcases k.freshp x e with z | z
    · exact h.freshp x z
    · cases q : a.H x with
      | none => exact .inr rfl
      | some o =>
        obtain ⟨o', e'⟩ := h.trk x o q
        rw [z] at e'; cases e'
  trk := fun x o e => by
    obtain ⟨o', e'⟩ := h.trk x o e
    exact k.trk x o' e'

theorem Wd.le.trans {a b c : Wd} (h : a.le b) (k : b.le c) : a.le c := ⟨h.toLe0.trans k.toLe0, fun x o u e => k.lck x o u (h.lck x o u e)⟩

/-- a tuple that is read and stays -/
noncomputable def SqI (K : PySem.W.Frag) (w : Wd) (a : Addr) (us : List V) : Prop :=
  (w.H a = some (.tup us) ∧ some a ∉ w.m) ∨
    (∃ z, V.str z ∈ us) ∧ ∃ (o : Obj) (its : Array Value) (n : Nat), K.lookup a = some o ∧ o.cls = .type "tuple" ∧ o.data = .seq its n ∧ its.size ≤ sizeLine ∧ Vals us its.toList
theorem SqI.sq {K : PySem.W.Frag} {w : Wd} {a : Addr} {us : List V} (h : SqI K w a us) : SqT K w.H a us := by
  rcases h with h | h
  · exact .inl (.inl h.1)
  · exact .inr h.2
theorem notin_of0 {w w' : Wd} (h : w.le0 w') {a : Addr} {o : HO} (e : w.H a = some o) (n : some a ∉ w.m) : some a ∉ w'.m := fun z => by
  rcases h.fresh a z with z | z
  · exact n z
  · rw [e] at z; cases z
theorem notin_of {w w' : Wd} (h : w.le w') {a : Addr} {o : HO} (e : w.H a = some o) (n : some a ∉ w.m) : some a ∉ w'.m := notin_of0 h.toLe0 e n
theorem notinp_of0 {w w' : Wd} (h : w.le0 w') {a : Addr} {o : HO} (e : w.H a = some o) (n : a ∉ w.p) : a ∉ w'.p := fun z => by
  rcases h.freshp a z with z | z
  · exact n z
  · rw [e] at z; cases z
theorem notinp_of {w w' : Wd} (h : w.le w') {a : Addr} {o : HO} (e : w.H a = some o) (n : a ∉ w.p) : a ∉ w'.p := notinp_of0 h.toLe0 e n
theorem SqI.mono0 {K : PySem.W.Frag} {w w' : Wd} {a : Addr} {us : List V} (h : SqI K w a us) (hw : w.le0 w') : SqI K w' a us := by
  rcases h with ⟨h, n⟩ | h
  · exact .inl ⟨hw.keep a _ h n, notin_of0 hw h n⟩
  · exact .inr h
theorem SqI.mono {K : PySem.W.Frag} {w w' : Wd} {a : Addr} {us : List V} (h : SqI K w a us) (hw : w.le w') : SqI K w' a us := h.mono0 hw.toLe0

/-- a list that is read and never written -/
noncomputable def SqS (K : PySem.W.Frag) (w : Wd) (a : Addr) (us : List V) : Prop :=
  (∃ o, w.H a = some (.frz o (.lst us)) ∧ some a ∉ w.m) ∨
    ∃ (o : Obj) (its : Array Value) (n : Nat), K.lookup a = some o ∧ o.cls = .type "list" ∧ o.dict = none ∧ o.data = .seq its n ∧ its.size ≤ sizeLine ∧ Vals us its.toList
theorem SqS.sq {K : PySem.W.Frag} {w : Wd} {a : Addr} {us : List V} (h : SqS K w a us) : SqL K w.H a us := by
  rcases h with ⟨o, h, _⟩ | h
  · exact .inl (.inr ⟨o, h⟩)
  · exact .inr h
theorem SqS.mono0 {K : PySem.W.Frag} {w w' : Wd} {a : Addr} {us : List V} (h : SqS K w a us) (hw : w.le0 w') : SqS K w' a us := by
  rcases h with ⟨o, h, n⟩ | h
  · exact .inl ⟨o, hw.keep a _ h n, notin_of0 hw h n⟩
  · exact .inr h
theorem SqS.mono {K : PySem.W.Frag} {w w' : Wd} {a : Addr} {us : List V} (h : SqS K w a us) (hw : w.le w') : SqS K w' a us := h.mono0 hw.toLe0

mutual
inductive Rep (K : PySem.W.Frag) (w : Wd) : PV → V → Prop
  | non : Rep K w .non .non
  | bl (b : Bool) : Rep K w (.bl b) (.bl b)
  | int (i : Int) : Rep K w (.int i) (.int i)
  | str (z : Str) (h : z.length ≤ sizeLine) : Rep K w (.str z.cps.toList) (.str z)
  | tup {a : Addr} {xs : List PV} {us : List V} : SqI K w a us → Reps K w xs us → Rep K w (.tup xs) (.ref a)
  | lst {a : Addr} {xs : List PV} {us : List V} : w.H a = some (.lst us) → some a ∉ w.m ∧ a ∉ w.p → Reps K w xs us → Rep K w (.lst xs) (.ref a)
  | scr {a : Addr} {ns : List Int} : SqS K w a (ns.map V.int) → Rep K w (.scr ns) (.ref a)
  | ref {a : Addr} {l : Nat} : w.m[l]? = some (some a) → Rep K w (.ref l) (.ref a)
  | gone {v : V} {l : Nat} : w.m[l]? = some none → Rep K w (.ref l) v
inductive Reps (K : PySem.W.Frag) (w : Wd) : List PV → List V → Prop
  | nil : Reps K w [] []
  | cons {x : PV} {xs : List PV} {u : V} {us : List V} : Rep K w x u → Reps K w xs us → Reps K w (x :: xs) (u :: us)
end

section
variable {K : PySem.W.Frag} {w w' : Wd}
mutual
theorem Rep.mono0 (hw : w.le0 w') : ∀ {v : PV} {u : V}, Rep K w v u → Rep K w' v u
  | _, _, .non => .non
  | _, _, .bl b => .bl b
  | _, _, .int i => .int i
  | _, _, .str z h => .str z h
  | _, _, .tup h r => .tup (h.mono0 hw) (Reps.mono0 hw r)
  | _, _, .lst h n r => .lst (hw.keep _ _ h n.1) ⟨notin_of0 hw h n.1, notinp_of0 hw h n.2⟩ (Reps.mono0 hw r)
  | _, _, .scr h => .scr (h.mono0 hw)
  | _, _, .ref h => by
    rcases hw.loc _ _ h with h | h
    · exact .ref h
    · exact .gone h
  | _, _, .gone h => .gone (hw.dead _ h)
theorem Reps.mono0 (hw : w.le0 w') : ∀ {v : List PV} {u : List V}, Reps K w v u → Reps K w' v u
  | _, _, .nil => .nil
  | _, _, .cons h r => .cons (Rep.mono0 hw h) (Reps.mono0 hw r)
end
theorem Rep.mono (hw : w.le w') : ∀ {v : PV} {u : V}, Rep K w v u → Rep K w' v u := Rep.mono0 hw.toLe0
theorem Reps.mono (hw : w.le w') : ∀ {v : List PV} {u : List V}, Reps K w v u → Reps K w' v u := Reps.mono0 hw.toLe0
theorem Reps.length : ∀ {v : List PV} {u : List V}, Reps K w v u → v.length = u.length
  | _, _, .nil => rfl
  | _, _, .cons _ r => by rw [List.length_cons, List.length_cons, Reps.length r]
theorem Reps.append : ∀ {v v' : List PV} {u u' : List V}, Reps K w v u → Reps K w v' u' → Reps K w (v ++ v') (u ++ u')
  | _, _, _, _, .nil, s => s
  | _, _, _, _, .cons h r, s => .cons h (Reps.append r s)
theorem Reps.drop : ∀ {v : List PV} {u : List V} (n : Nat), Reps K w v u → Reps K w (v.drop n) (u.drop n)
  | _, _, 0, r => r
  | _, _, _ + 1, .nil => .nil
  | _, _, n + 1, .cons _ r => Reps.drop n r
theorem Reps.take : ∀ {v : List PV} {u : List V} (n : Nat), Reps K w v u → Reps K w (v.take n) (u.take n)
  | _, _, 0, _ => .nil
  | _, _, _ + 1, .nil => .nil
  | _, _, n + 1, .cons h r => .cons h (Reps.take n r)
theorem Reps.get : ∀ {v : List PV} {u : List V} {i : Nat} {x : PV}, Reps K w v u → v[i]? = some x → ∃ y, u[i]? = some y ∧ Rep K w x y
  | _, _, _, _, .nil, e => by simp at e
  | _, _, 0, _, .cons h _, e => by simp at e; subst e; exact ⟨_, rfl, h⟩
  | _, _, i + 1, _, .cons _ r, e => by
    obtain ⟨y, h1, h2⟩ := Reps.get (i := i) r (by simpa using e)
    exact ⟨y, by simpa using h1, h2⟩
theorem Reps.getV : ∀ {v : List PV} {u : List V} {i : Nat} {y : V}, Reps K w v u → u[i]? = some y → ∃ x, v[i]? = some x ∧ Rep K w x y
  | _, _, _, _, .nil, e => by simp at e
  | _, _, 0, _, .cons h _, e => by simp at e; subst e; exact ⟨_, rfl, h⟩
  | _, _, i + 1, _, .cons _ r, e => by
    obtain ⟨y, h1, h2⟩ := Reps.getV (i := i) r (by simpa using e)
    exact ⟨y, by simpa using h1, h2⟩
theorem Reps.rep {v : List PV} {u : List V} (h : Reps K w v u) : ∀ k : Nat, Reps K w (List.replicate k v).flatten (List.replicate k u).flatten
  | 0 => .nil
  | k + 1 => by
    rw [List.replicate_succ, List.replicate_succ, List.flatten_cons, List.flatten_cons]
    exact h.append (Reps.rep h k)
theorem Reps.set : ∀ {v : List PV} {u : List V} {x : PV} {y : V} (i : Nat), Reps K w v u → Rep K w x y → Reps K w (v.set i x) (u.set i y)
  | _, _, _, _, _, .nil, _ => .nil
  | _, _, _, _, 0, .cons _ r, h => .cons h r
  | _, _, _, _, i + 1, .cons q r, h => .cons q (Reps.set i r h)
theorem Reps.cut {v : List PV} {u : List V} (h : Reps K w v u) (lo hi : Option Int) : Reps K w (cutL v lo hi) (cutV u lo hi) := by
  unfold cutL cutV
  rw [h.length]
  exact (h.drop _).take _
/-- ints -/
theorem Reps.ints : ∀ {v : List PV} {u : List V} {ns : List Int}, Reps K w v u → intsV v = some ns → u = ns.map V.int
  | _, _, _, .nil, e => by simp [intsV] at e; subst e; rfl
  | _, _, _, .cons h r, e => by
    cases h with
    | int i =>
      simp only [intsV, Option.map_eq_some_iff] at e
      obtain ⟨ms, e1, rfl⟩ := e
      rw [Reps.ints r e1]; rfl
    | _ => simp [intsV] at e
theorem Reps.bls : ∀ {v : List PV} {u : List V} {ns : List Bool}, Reps K w v u → blsV v = some ns → u = ns.map V.bl
  | _, _, _, .nil, e => by simp [blsV] at e; subst e; rfl
  | _, _, _, .cons h r, e => by
    cases h with
    | bl i =>
      simp only [blsV, Option.map_eq_some_iff] at e
      obtain ⟨ms, e1, rfl⟩ := e
      rw [Reps.bls r e1]; rfl
    | _ => simp [blsV] at e
/-! data -/
mutual
theorem Rep.dp : ∀ {v : PV} {u : V}, Rep K w v u → v.isData = true → Dp K w.H u v.toD
  | _, _, .non, _ => by unfold PV.toD; exact .non
  | _, _, .bl b, _ => by unfold PV.toD; exact .bl b
  | _, _, .int i, _ => by unfold PV.toD; exact .int i
  | _, _, .str z _, _ => by unfold PV.toD; exact .str z
  | _, _, .tup h r, d => by
    unfold PV.toD
    exact .tup h.sq (Reps.dp r (by simpa [PV.isData] using d))
  | _, _, .lst h n r, d => by
    unfold PV.toD
    exact .lst (SqL.of h) (Reps.dp r (by simpa [PV.isData] using d))
  | _, _, .scr _, d => by simp [PV.isData] at d
  | _, _, .ref _, d => by simp [PV.isData] at d
  | _, _, .gone _, d => by simp [PV.isData] at d
theorem Reps.dp : ∀ {v : List PV} {u : List V}, Reps K w v u → PV.areData v = true → DpAll K w.H u (PV.toDs v)
  | _, _, .nil, _ => by unfold PV.toDs; exact .nil
  | _, _, .cons h r, d => by
    simp only [PV.areData, Bool.and_eq_true] at d
    unfold PV.toDs
    exact .cons (Rep.dp h d.1) (Reps.dp r d.2)
end
end

/-- attributes -/
inductive RepF (K : PySem.W.Frag) (w : Wd) : Flds → List (Str × V) → Prop
  | nil : RepF K w [] []
  | cons {f : Str} {x : PV} {u : V} {r : Flds} {s : List (Str × V)} : Rep K w x u → RepF K w r s → RepF K w ((f, x) :: r) ((f, u) :: s)
theorem RepF.mono0 {K : PySem.W.Frag} {w w' : Wd} (hw : w.le0 w') : ∀ {fs : Flds} {us : List (Str × V)}, RepF K w fs us → RepF K w' fs us
  | _, _, .nil => .nil
  | _, _, .cons h r => .cons (h.mono0 hw) (RepF.mono0 hw r)
theorem RepF.mono {K : PySem.W.Frag} {w w' : Wd} (hw : w.le w') : ∀ {fs : Flds} {us : List (Str × V)}, RepF K w fs us → RepF K w' fs us := RepF.mono0 hw.toLe0
theorem RepF.length {K : PySem.W.Frag} {w : Wd} : ∀ {fs : Flds} {us : List (Str × V)}, RepF K w fs us → fs.length = us.length
  | _, _, .nil => rfl
  | _, _, .cons _ r => by rw [List.length_cons, List.length_cons, RepF.length r]
theorem RepF.lookup {K : PySem.W.Frag} {w : Wd} {f : Str} : ∀ {fs : Flds} {us : List (Str × V)}, RepF K w fs us → (fs.lookup f = none → us.lookup f = none) ∧ ∀ x, fs.lookup f = some x → ∃ u, us.lookup f = some u ∧ Rep K w x u
  | _, _, .nil => ⟨fun _ => rfl, fun x h => by cases h⟩
  | _, _, .cons (f := g) h r => by
    have ih := RepF.lookup (f := f) r
    rw [List.lookup_cons, List.lookup_cons]
    cases e : (f == g) with
    | true => exact ⟨fun z => by simp at z, fun x z => by simp at z; subst z; exact ⟨_, rfl, h⟩⟩
    | false => exact ih
theorem RepF.put {K : PySem.W.Frag} {w : Wd} {f : Str} {x : PV} {u : V} (hx : Rep K w x u) : ∀ {fs : Flds} {us : List (Str × V)}, RepF K w fs us → RepF K w (putP f x fs) (putF f u us)
  | _, _, .nil => .cons hx .nil
  | _, _, .cons (f := g) h r => by
    unfold putP putF
    by_cases e : g = f
    · rw [if_pos e, if_pos e]; exact .cons hx r
    · rw [if_neg e, if_neg e]; exact .cons h (RepF.put hx r)
/-- the entries of a dict -/
noncomputable def toK : KP → L2.Key
  | .inl i => .inl i
  | .inr s => .inr ⟨s.toArray⟩
theorem toK_inj {a b : KP} (h : toK a = toK b) : a = b := by
  cases a with
  | inl i => cases b with
    | inl j => have h' : (Sum.inl i : L2.Key) = Sum.inl j := h; injection h' with h'; rw [h']
    | inr t => exact nomatch (show (Sum.inl i : L2.Key) = Sum.inr _ from h)
  | inr s => cases b with
    | inl j => exact nomatch (show (Sum.inr _ : L2.Key) = Sum.inl j from h)
    | inr t =>
      have h' : (Sum.inr ⟨s.toArray⟩ : L2.Key) = Sum.inr ⟨t.toArray⟩ := h
      injection h' with h'
      injection h' with h'
      have := congrArg Array.toList h'
      simp at this
      rw [this]
theorem toKs_inj : ∀ {a b : List KP}, a.map toK = b.map toK → a = b
  | [], [], _ => rfl
  | [], _ :: _, h => by simp at h
  | _ :: _, [], h => by simp at h
  | x :: a, y :: b, h => by
    simp only [List.map_cons, List.cons.injEq] at h
    rw [toK_inj h.1, toKs_inj h.2]
inductive RepD (K : PySem.W.Frag) (w : Wd) : DC → List (List L2.Key × V) → Prop
  | nil : RepD K w [] []
  | cons {k : List KP} {x : PV} {u : V} {r : DC} {s : List (List L2.Key × V)} : Rep K w x u → RepD K w r s → RepD K w ((k, x) :: r) ((k.map toK, u) :: s)
section
variable {K : PySem.W.Frag} {w w' : Wd}
theorem RepD.mono0 (hw : w.le0 w') : ∀ {r : DC} {s : List (List L2.Key × V)}, RepD K w r s → RepD K w' r s
  | _, _, .nil => .nil
  | _, _, .cons h r => .cons (h.mono0 hw) (RepD.mono0 hw r)
theorem RepD.mono (hw : w.le w') : ∀ {r : DC} {s : List (List L2.Key × V)}, RepD K w r s → RepD K w' r s := RepD.mono0 hw.toLe0
theorem RepD.length : ∀ {r : DC} {s : List (List L2.Key × V)}, RepD K w r s → r.length = s.length
  | _, _, .nil => rfl
  | _, _, .cons _ r => by simp [RepD.length r]
theorem RepD.reps : ∀ {r : DC} {s : List (List L2.Key × V)}, RepD K w r s → Reps K w (r.map (·.2)) (s.map (·.2))
  | _, _, .nil => .nil
  | _, _, .cons h r => .cons h (RepD.reps r)
theorem RepD.look (k : List KP) : ∀ {r : DC} {s : List (List L2.Key × V)}, RepD K w r s → (dlook r k = none ∧ L2.valV s (k.map toK) = none) ∨ ∃ x u, dlook r k = some x ∧ L2.valV s (k.map toK) = some u ∧ Rep K w x u
  | _, _, .nil => .inl ⟨rfl, rfl⟩
  | _, _, @RepD.cons _ _ k' x u r s h t => by
    by_cases e : k' = k
    · subst e
      refine .inr ⟨x, u, by simp [dlook], ?_, h⟩
      exact L2.valV_pos (p := (k'.map toK, u)) rfl
    · have e2 : ¬ k'.map toK = k.map toK := fun z => e (toKs_inj z)
      have a1 : dlook ((k', x) :: r) k = dlook r k := by simp [dlook, e]
      have a2 : L2.valV ((k'.map toK, u) :: s) (k.map toK) = L2.valV s (k.map toK) := L2.valV_neg (p := (k'.map toK, u)) e2
      rw [a1, a2]
      exact RepD.look k t
theorem RepD.any (k : List KP) : ∀ {r : DC} {s : List (List L2.Key × V)}, RepD K w r s → (r.any fun kv => decide (kv.1 = k)) = (s.any fun kv => decide (kv.1 = k.map toK))
  | _, _, .nil => rfl
  | _, _, @RepD.cons _ _ k' x u r s h t => by
    rw [List.any_cons, List.any_cons, RepD.any k t]
    congr 1
    by_cases e : k' = k
    · simp [e]
    · have e2 : ¬ k'.map toK = k.map toK := fun z => e (toKs_inj z)
      simp [e, e2]
theorem RepD.map (k : List KP) {y : PV} {v : V} (hy : Rep K w y v) : ∀ {r : DC} {s : List (List L2.Key × V)}, RepD K w r s → RepD K w (r.map fun kv => if kv.1 = k then (kv.1, y) else kv) (s.map fun kv => if kv.1 = k.map toK then (kv.1, v) else kv)
  | _, _, .nil => .nil
  | _, _, @RepD.cons _ _ k' x u r s h t => by
    rw [List.map_cons, List.map_cons]
    by_cases e : k' = k
    · have e2 : k'.map toK = k.map toK := by rw [e]
      simp only [e, e2, if_true]
      exact .cons hy (RepD.map k hy t)
    · have e2 : ¬ k'.map toK = k.map toK := fun z => e (toKs_inj z)
      simp only [e, e2, if_false]
      exact .cons h (RepD.map k hy t)
theorem RepD.snoc {k : List KP} {y : PV} {v : V} (hy : Rep K w y v) : ∀ {r : DC} {s : List (List L2.Key × V)}, RepD K w r s → RepD K w (r ++ [(k, y)]) (s ++ [(k.map toK, v)])
  | _, _, .nil => .cons hy .nil
  | _, _, .cons h t => .cons h (RepD.snoc hy t)
theorem RepD.put (k : List KP) {y : PV} {v : V} (hy : Rep K w y v) {r : DC} {s : List (List L2.Key × V)} (h : RepD K w r s) : RepD K w (dput r k y) (L2.putK s (k.map toK) v) := by
  unfold dput L2.putK
  rw [h.any k]
  split
  · exact h.map k hy
  · exact h.snoc hy
end
/-- keys that stand alone -/
noncomputable def lone (us : List (L2.Key × V)) : List (List L2.Key × V) := us.map fun p => ([p.1], p.2)
theorem lone_val (us : List (L2.Key × V)) (k : L2.Key) : L2.valV (lone us) [k] = L2.valV us k := by
  induction us with
  | nil => rfl
  | cons p r ih =>
    by_cases e : p.1 = k
    · rw [L2.valV_pos e]
      exact L2.valV_pos (p := ([p.1], p.2)) (by rw [e])
    · rw [L2.valV_neg e, ← ih]
      exact L2.valV_neg (p := ([p.1], p.2)) (by simpa using e)
theorem lone_put (us : List (L2.Key × V)) (k : L2.Key) (v : V) : L2.putK (lone us) [k] v = lone (L2.putK us k v) := by
  have ha : ((lone us).any fun kv => decide (kv.1 = [k])) = us.any fun kv => decide (kv.1 = k) := by
    unfold lone
    rw [List.any_map]
    congr 1
    funext p
    simp
  unfold L2.putK
  rw [ha]
  split
  · unfold lone
    rw [List.map_map, List.map_map]
    congr 1
    funext p
    by_cases e : p.1 = k <;> simp [e]
  · simp [lone]
/-- a cell is borne at an address -/
noncomputable def CellOk (K : PySem.W.Frag) (w : Wd) (a : Addr) : Cell → Prop
  | .dead => False
  | .lst xs => ∃ us, w.H a = some (.lst us) ∧ Reps K w xs us
  | .obj C fs => ∃ (D dx : Addr) (us : List (Str × V)), PySem.W.nsIn K mainGlobals C = some (some (.ref D)) ∧ w.H a = some (.ins D dx us) ∧ RepF K w fs us
  | .dct true kvs => ∃ us : List (List L2.Key × V), w.H a = some (.dT us) ∧ RepD K w kvs us
  | .dct false kvs => ∃ us : List (L2.Key × V), w.H a = some (.dK us) ∧ RepD K w kvs (lone us)
  | .fdc kvs => ∃ (o : Obj) (us : List (List L2.Key × V)), w.H a = some (.frz o (.dT us)) ∧ RepD K w kvs us
structure StOk (K : PySem.W.Frag) (w : Wd) (st : Sto) : Prop where
  len : w.m.length = st.length
  inj : ∀ (l l' : Nat) (a : Addr), w.m[l]? = some (some a) → w.m[l']? = some (some a) → l = l'
  cell : ∀ (l : Nat) (a : Addr), w.m[l]? = some (some a) → ∃ c, st[l]? = some c ∧ CellOk K w a c
  prv : ∀ a, a ∈ w.p → ∃ o, w.H a = some o
  dis : ∀ a, some a ∈ w.m → a ∉ w.p
  gone : ∀ l : Nat, w.m[l]? = some none → st[l]? = some .dead
theorem mem_m {w : Wd} {a : Addr} (h : some a ∈ w.m) : ∃ l : Nat, w.m[l]? = some (some a) := by
  obtain ⟨l, hl, e⟩ := List.mem_iff_getElem.mp h
  exact ⟨l, by rw [List.getElem?_eq_getElem hl, e]⟩
theorem m_mem {w : Wd} {a : Addr} {l : Nat} (h : w.m[l]? = some (some a)) : some a ∈ w.m := List.mem_of_getElem? h
theorem CellOk.there {K : PySem.W.Frag} {w : Wd} {a : Addr} : ∀ {c : Cell}, CellOk K w a c → ∃ o, w.H a = some o
  | .dead, h => h.elim
  | .lst _, ⟨_, h, _⟩ => ⟨_, h⟩
  | .obj _ _, ⟨_, _, _, _, h, _⟩ => ⟨_, h⟩
  | .dct true _, ⟨_, h, _⟩ => ⟨_, h⟩
  | .dct false _, ⟨_, h, _⟩ => ⟨_, h⟩
  | .fdc _, ⟨_, _, h, _⟩ => ⟨_, h⟩
theorem StOk.there {K : PySem.W.Frag} {w : Wd} {st : Sto} (h : StOk K w st) {a : Addr} (e : some a ∈ w.m) : ∃ o, w.H a = some o := by
  obtain ⟨l, e⟩ := mem_m e
  obtain ⟨c, _, q⟩ := h.cell l a e
  exact q.there
theorem StOk.new {K : PySem.W.Frag} {w : Wd} {st : Sto} (h : StOk K w st) {p : Addr} (e : w.H p = none) : some p ∉ w.m := fun z => by
  obtain ⟨o, q⟩ := h.there z
  rw [e] at q; cases q

theorem StOk.newp {K : PySem.W.Frag} {w : Wd} {st : Sto} (h : StOk K w st) {p : Addr} (e : w.H p = none) : p ∉ w.p := fun z => by
  obtain ⟨o, q⟩ := h.prv p z
  rw [e] at q; cases q

/-- a new object that is no location -/
noncomputable def Wd.put (w : Wd) (p : Addr) (o : HO) : Wd := ⟨w.m, w.p, upd w.H p o⟩
theorem Wd.put_le {w : Wd} {p : Addr} {o : HO} (e : w.H p = none) : w.le (w.put p o) where
  len := Nat.le_refl _
  loc := fun _ _ h => .inl h
  dead := fun _ h => h
  keep := fun a u h _ => by
    show upd w.H p o a = some u
    rw [upd_ne (ne_of_none h e)]; exact h
  fresh := fun _ h => .inl h
  priv := fun _ h => h
  freshp := fun _ h => .inl h
  lck := fun a _ u h => by
    show upd w.H p o a = _
    rw [upd_ne (ne_of_none h e)]; exact h
  trk := fun a u h => ⟨u, by
    show upd w.H p o a = some u
    rw [upd_ne (ne_of_none h e)]; exact h⟩
theorem CellOk.put0 {K : PySem.W.Frag} {w w' : Wd} {a : Addr} (hw : w.le0 w') (he : ∀ o, w.H a = some o → w'.H a = some o) : ∀ {c : Cell}, CellOk K w a c → CellOk K w' a c
  | .dead, h => h.elim
  | .lst _, ⟨us, h, r⟩ => ⟨us, he _ h, r.mono0 hw⟩
  | .obj _ _, ⟨D, dx, us, c, h, r⟩ => ⟨D, dx, us, c, he _ h, r.mono0 hw⟩
  | .dct true _, ⟨us, h, r⟩ => ⟨us, he _ h, r.mono0 hw⟩
  | .dct false _, ⟨us, h, r⟩ => ⟨us, he _ h, r.mono0 hw⟩
  | .fdc _, ⟨o, us, h, r⟩ => ⟨o, us, he _ h, r.mono0 hw⟩
theorem CellOk.put {K : PySem.W.Frag} {w w' : Wd} {a : Addr} (hw : w.le w') (he : ∀ o, w.H a = some o → w'.H a = some o) : ∀ {c : Cell}, CellOk K w a c → CellOk K w' a c := CellOk.put0 hw.toLe0 he
theorem StOk.put {K : PySem.W.Frag} {w : Wd} {st : Sto} (h : StOk K w st) {p : Addr} {o : HO} (e : w.H p = none) : StOk K (w.put p o) st where
  len := h.len
  inj := h.inj
  cell := fun l a q => by
    obtain ⟨c, hc, ok⟩ := h.cell l a q
    refine ⟨c, hc, ok.put (Wd.put_le e) fun u hu => ?_⟩
    show upd w.H p o a = some u
    rw [upd_ne (ne_of_none hu e)]; exact hu
  prv := fun a q => by
    obtain ⟨u, hu⟩ := h.prv a q
    exact (Wd.put_le e).trk a u hu
  dis := h.dis
  gone := h.gone

/-- what an operation that hands back v and leaves the store st is to show -/
noncomputable def Gets (K : PySem.W.Frag) (w : Wd) (v : PV) (st : Sto) (Q : VK) : Prop := ∀ w' u, w.le w' → StOk K w' st → Rep K w' v u → Q u w'.H
theorem Gets.same {K : PySem.W.Frag} {w : Wd} {v : PV} {st : Sto} {Q : VK} {u : V} (g : Gets K w v st Q) (h : StOk K w st) (r : Rep K w v u) : Q u w.H := g w u (.refl w) h r
theorem Gets.tup {K : PySem.W.Frag} {w : Wd} {xs : List PV} {us : List V} {st : Sto} {Q : VK} (g : Gets K w (.tup xs) st Q) (h : StOk K w st) (r : Reps K w xs us) {p : Addr} (e : w.H p = none) : Q (.ref p) (upd w.H p (.tup us)) := by
  refine g (w.put p (.tup us)) (.ref p) (Wd.put_le e) (h.put e) (.tup (.inl ⟨upd_same, h.new e⟩) (r.mono (Wd.put_le e)))
theorem Gets.lst {K : PySem.W.Frag} {w : Wd} {xs : List PV} {us : List V} {st : Sto} {Q : VK} (g : Gets K w (.lst xs) st Q) (h : StOk K w st) (r : Reps K w xs us) {p : Addr} (e : w.H p = none) : Q (.ref p) (upd w.H p (.lst us)) := by
  refine g (w.put p (.lst us)) (.ref p) (Wd.put_le e) (h.put e) (.lst upd_same ⟨h.new e, h.newp e⟩ (r.mono (Wd.put_le e)))

/-! locations -/
/-- a new list that may be written -/
noncomputable def Wd.loc (w : Wd) (p : Addr) (us : List V) : Wd := ⟨w.m ++ [some p], w.p, upd w.H p (.lst us)⟩
theorem Wd.loc_le {w : Wd} {p : Addr} {us : List V} (e : w.H p = none) : w.le (w.loc p us) where
  len := by show w.m.length ≤ (w.m ++ [some p]).length; simp
  loc := fun l a h => .inl (by
    show (w.m ++ [some p])[l]? = _
    rw [List.getElem?_append_left (List.getElem?_eq_some_iff.mp h).1]; exact h)
  dead := fun l h => by
    show (w.m ++ [some p])[l]? = _
    rw [List.getElem?_append_left (List.getElem?_eq_some_iff.mp h).1]; exact h
  keep := fun a u h _ => by
    show upd w.H p (.lst us) a = some u
    rw [upd_ne (ne_of_none h e)]; exact h
  fresh := fun a h => by
    rcases List.mem_append.mp (show some a ∈ w.m ++ [some p] from h) with z | z
    · exact .inl z
    · simp at z; subst z; exact .inr e
  priv := fun _ h => h
  freshp := fun _ h => .inl h
  lck := fun a _ u h => by
    show upd w.H p (.lst us) a = _
    rw [upd_ne (ne_of_none h e)]; exact h
  trk := fun a u h => ⟨u, by
    show upd w.H p (.lst us) a = some u
    rw [upd_ne (ne_of_none h e)]; exact h⟩
theorem loc_cases {m : List (Option Addr)} {p : Addr} {l : Nat} {o : Option Addr} (h : (m ++ [some p])[l]? = some o) : m[l]? = some o ∨ (l = m.length ∧ o = some p) := by
  rw [List.getElem?_append] at h
  split at h
  · exact .inl h
  · rename_i hl
    rcases Nat.lt_or_ge m.length l with z | z
    · rw [List.getElem?_eq_none (by simp; omega)] at h; cases h
    · have : l = m.length := by omega
      subst this
      simp at h
      exact .inr ⟨rfl, h.symm⟩
theorem StOk.loc {K : PySem.W.Frag} {w : Wd} {st : Sto} (h : StOk K w st) {p : Addr} {xs : List PV} {us : List V} (e : w.H p = none) (r : Reps K w xs us) : StOk K (w.loc p us) (st ++ [.lst xs]) where
  len := by show (w.m ++ [some p]).length = _; simp [h.len]
  inj := fun l l' a q q' => by
    rcases loc_cases q with z | ⟨z, z2⟩ <;> rcases loc_cases q' with y | ⟨y, y2⟩
    · exact h.inj l l' a z y
    · cases y2; exact absurd (m_mem z) (h.new e)
    · cases z2; exact absurd (m_mem y) (h.new e)
    · rw [z, y]
  cell := fun l a q => by
    rcases loc_cases q with z | ⟨z, z2⟩
    · obtain ⟨c, hc, ok⟩ := h.cell l a z
      refine ⟨c, ?_, ok.put (Wd.loc_le e) fun u hu => ?_⟩
      · rw [List.getElem?_append_left (List.getElem?_eq_some_iff.mp hc).1]; exact hc
      · show upd w.H p (.lst us) a = some u
        rw [upd_ne (ne_of_none hu e)]; exact hu
    · cases z2
      refine ⟨.lst xs, ?_, us, upd_same, r.mono (Wd.loc_le e)⟩
      rw [z, h.len]; simp
  prv := fun a q => by
    obtain ⟨u, hu⟩ := h.prv a q
    exact (Wd.loc_le (us := us) e).trk a u hu
  dis := fun a q => by
    rcases List.mem_append.mp (show some a ∈ w.m ++ [some p] from q) with z | z
    · exact h.dis a z
    · simp at z; subst z; exact h.newp e
  gone := fun l q => by
    rcases loc_cases q with z | ⟨_, z2⟩
    · have := h.gone l z
      rw [List.getElem?_append_left (List.getElem?_eq_some_iff.mp this).1]; exact this
    · cases z2
theorem Gets.loc {K : PySem.W.Frag} {w : Wd} {xs : List PV} {us : List V} {st : Sto} {Q : VK} (g : Gets K w (.ref st.length) (st ++ [.lst xs]) Q) (h : StOk K w st) (r : Reps K w xs us) {p : Addr} (e : w.H p = none) : Q (.ref p) (upd w.H p (.lst us)) := by
  refine g (w.loc p us) (.ref p) (Wd.loc_le e) (h.loc e r) (.ref ?_)
  show (w.m ++ [some p])[st.length]? = _
  rw [← h.len]; simp
/-- any new location -/
noncomputable def Wd.locO (w : Wd) (p : Addr) (o : HO) : Wd := ⟨w.m ++ [some p], w.p, upd w.H p o⟩
theorem Wd.locO_le {w : Wd} {p : Addr} {o : HO} (e : w.H p = none) : w.le (w.locO p o) where
  len := by show w.m.length ≤ (w.m ++ [some p]).length; simp
  loc := fun l a h => .inl (by
    show (w.m ++ [some p])[l]? = _
    rw [List.getElem?_append_left (List.getElem?_eq_some_iff.mp h).1]; exact h)
  dead := fun l h => by
    show (w.m ++ [some p])[l]? = _
    rw [List.getElem?_append_left (List.getElem?_eq_some_iff.mp h).1]; exact h
  keep := fun a u h _ => by
    show upd w.H p o a = some u
    rw [upd_ne (ne_of_none h e)]; exact h
  fresh := fun a h => by
    rcases List.mem_append.mp (show some a ∈ w.m ++ [some p] from h) with z | z
    · exact .inl z
    · simp at z; subst z; exact .inr e
  priv := fun _ h => h
  freshp := fun _ h => .inl h
  lck := fun a _ u h => by
    show upd w.H p o a = _
    rw [upd_ne (ne_of_none h e)]; exact h
  trk := fun a u h => ⟨u, by
    show upd w.H p o a = some u
    rw [upd_ne (ne_of_none h e)]; exact h⟩
theorem StOk.locO {K : PySem.W.Frag} {w : Wd} {st : Sto} (h : StOk K w st) {p : Addr} {o : HO} {c : Cell} (e : w.H p = none) (hc : CellOk K (w.locO p o) p c) : StOk K (w.locO p o) (st ++ [c]) where
  len := by show (w.m ++ [some p]).length = _; simp [h.len]
  inj := fun l l' a q q' => by
    rcases loc_cases q with z | ⟨z, z2⟩ <;> rcases loc_cases q' with y | ⟨y, y2⟩
    · exact h.inj l l' a z y
    · cases y2; exact absurd (m_mem z) (h.new e)
    · cases z2; exact absurd (m_mem y) (h.new e)
    · rw [z, y]
  cell := fun l a q => by
    rcases loc_cases q with z | ⟨z, z2⟩
    · obtain ⟨c, hc, ok⟩ := h.cell l a z
      refine ⟨c, ?_, ok.put (Wd.locO_le e) fun u hu => ?_⟩
      · rw [List.getElem?_append_left (List.getElem?_eq_some_iff.mp hc).1]; exact hc
      · show upd w.H p o a = some u
        rw [upd_ne (ne_of_none hu e)]; exact hu
    · cases z2
      refine ⟨c, ?_, hc⟩
      rw [z, h.len]; simp
  prv := fun a q => by
    obtain ⟨u, hu⟩ := h.prv a q
    exact (Wd.locO_le (o := o) e).trk a u hu
  dis := fun a q => by
    rcases List.mem_append.mp (show some a ∈ w.m ++ [some p] from q) with z | z
    · exact h.dis a z
    · simp at z; subst z; exact h.newp e
  gone := fun l q => by
    rcases loc_cases q with z | ⟨_, z2⟩
    · have := h.gone l z
      rw [List.getElem?_append_left (List.getElem?_eq_some_iff.mp this).1]; exact this
    · cases z2
theorem Gets.locO {K : PySem.W.Frag} {w : Wd} {st : Sto} {Q : VK} {c : Cell} {o : HO} (g : Gets K w (.ref st.length) (st ++ [c]) Q) (h : StOk K w st) {p : Addr} (e : w.H p = none) (hc : CellOk K (w.locO p o) p c) : Q (.ref p) (upd w.H p o) := by
  refine g (w.locO p o) (.ref p) (Wd.locO_le e) (h.locO e hc) (.ref ?_)
  show (w.m ++ [some p])[st.length]? = _
  rw [← h.len]; simp
/-- a list that a comprehension has filled becomes a location -/
noncomputable def Wd.own1 (w : Wd) (p : Addr) (q : List Addr) : Wd := ⟨w.m ++ [some p], q, w.H⟩
/-- a live list is rewritten -/
noncomputable def Wd.lw (w : Wd) (a : Addr) (us : List V) : Wd := ⟨w.m, w.p, upd w.H a (.lst us)⟩
theorem Wd.lw_le {w : Wd} {a : Addr} {us us0 : List V} (e : some a ∈ w.m) (hl : w.H a = some (.lst us0)) : w.le (w.lw a us) where
  len := Nat.le_refl _
  loc := fun _ _ h => .inl h
  dead := fun _ h => h
  keep := fun b u h n => by
    show upd w.H a (.lst us) b = some u
    rw [upd_ne (fun z => n (by rw [z]; exact e))]; exact h
  fresh := fun _ h => .inl h
  priv := fun _ h => h
  freshp := fun _ h => .inl h
  lck := fun b o u h => by
    show upd w.H a (.lst us) b = _
    rw [upd_ne (fun z => by rw [z, hl] at h; cases h)]; exact h
  trk := fun b u h => by
    by_cases z : b = a
    · subst z; exact ⟨_, upd_same⟩
    · exact ⟨u, by show upd w.H a (.lst us) b = some u; rw [upd_ne z]; exact h⟩
theorem StOk.lw {K : PySem.W.Frag} {w : Wd} {st : Sto} (h : StOk K w st) {l : Nat} {a : Addr} {xs : List PV} {us : List V} (e : w.m[l]? = some (some a)) {us0 : List V} (hl0 : w.H a = some (.lst us0)) (r : Reps K w xs us) : StOk K (w.lw a us) (st.set l (.lst xs)) where
  len := by rw [List.length_set]; exact h.len
  inj := h.inj
  cell := fun l' a' q => by
    by_cases z : l = l'
    · subst z
      have ea : some (some a) = some (some a') := by rw [← e]; exact q
      cases ea
      have hl : l < st.length := by rw [← h.len]; exact (List.getElem?_eq_some_iff.mp e).1
      exact ⟨.lst xs, List.getElem?_set_self hl, us, upd_same, r.mono (Wd.lw_le (m_mem e) hl0)⟩
    · obtain ⟨c, hc, ok⟩ := h.cell l' a' q
      refine ⟨c, by rw [List.getElem?_set_ne z]; exact hc, ok.put (Wd.lw_le (m_mem e) hl0) fun u hu => ?_⟩
      show upd w.H a (.lst us) a' = some u
      rw [upd_ne (fun y => z (h.inj l l' a e (by rw [← y]; exact q)))]; exact hu
  prv := fun b q => by
    obtain ⟨u, hu⟩ := h.prv b q
    exact (Wd.lw_le (us := us) (m_mem e) hl0).trk b u hu
  dis := h.dis
  gone := fun l' q => by
    have z : l ≠ l' := fun z => by subst z; rw [show w.m[l]? = some none from q] at e; cases e
    rw [List.getElem?_set_ne z]
    exact h.gone l' q
/-- a live object is rewritten -/
noncomputable def Wd.ow (w : Wd) (a : Addr) (o : HO) : Wd := ⟨w.m, w.p, upd w.H a o⟩
theorem Wd.ow_le0 {w : Wd} {a : Addr} {o : HO} (e : some a ∈ w.m) : w.le0 (w.ow a o) where
  len := Nat.le_refl _
  loc := fun _ _ h => .inl h
  dead := fun _ h => h
  keep := fun b u h n => by
    show upd w.H a o b = some u
    rw [upd_ne (fun z => n (by rw [z]; exact e))]; exact h
  fresh := fun _ h => .inl h
  priv := fun _ h => h
  freshp := fun _ h => .inl h
  trk := fun b u h => by
    by_cases z : b = a
    · subst z; exact ⟨_, upd_same⟩
    · exact ⟨u, by show upd w.H a o b = some u; rw [upd_ne z]; exact h⟩
theorem Wd.ow_le {w : Wd} {a : Addr} {o : HO} (e : some a ∈ w.m) (hn : ∀ p u, w.H a ≠ some (.frz p u)) : w.le (w.ow a o) := ⟨Wd.ow_le0 e, fun b p u h => by
  show upd w.H a o b = _
  rw [upd_ne (fun z => hn p u (by rw [← z]; exact h))]; exact h⟩
theorem StOk.ow {K : PySem.W.Frag} {w : Wd} {st : Sto} (h : StOk K w st) {l : Nat} {a : Addr} {o : HO} {c : Cell} (e : w.m[l]? = some (some a)) (hc : CellOk K (w.ow a o) a c) : StOk K (w.ow a o) (st.set l c) where
  len := by rw [List.length_set]; exact h.len
  inj := h.inj
  cell := fun l' a' q => by
    by_cases z : l = l'
    · subst z
      have ea : some (some a) = some (some a') := by rw [← e]; exact q
      cases ea
      have hl : l < st.length := by rw [← h.len]; exact (List.getElem?_eq_some_iff.mp e).1
      exact ⟨c, List.getElem?_set_self hl, hc⟩
    · obtain ⟨d, hd, ok⟩ := h.cell l' a' q
      refine ⟨d, by rw [List.getElem?_set_ne z]; exact hd, ok.put0 (Wd.ow_le0 (m_mem e)) fun u hu => ?_⟩
      show upd w.H a o a' = some u
      rw [upd_ne (fun y => z (h.inj l l' a e (by rw [← y]; exact q)))]; exact hu
  prv := fun b q => by
    obtain ⟨u, hu⟩ := h.prv b q
    exact (Wd.ow_le0 (o := o) (m_mem e)).trk b u hu
  dis := h.dis
  gone := fun l' q => by
    have z : l ≠ l' := fun z => by subst z; rw [show w.m[l]? = some none from q] at e; cases e
    rw [List.getElem?_set_ne z]
    exact h.gone l' q
/-- a new object, and its own dict -/
noncomputable def Wd.nob (w : Wd) (x dx C : Addr) : Wd := ⟨w.m ++ [some x], w.p, upd (upd w.H dx (.own x)) x (.ins C dx [])⟩
section
variable {w : Wd} {x dx C : Addr}
theorem nob_ne (hx : w.H x = none) (hdx : w.H dx = none) {a : Addr} {o : HO} (h : w.H a = some o) : (w.nob x dx C).H a = some o := by
  show upd (upd w.H dx (.own x)) x (.ins C dx []) a = some o
  rw [upd_ne (ne_of_none h hx), upd_ne (ne_of_none h hdx)]; exact h
theorem Wd.nob_le (hx : w.H x = none) (hdx : w.H dx = none) : w.le (w.nob x dx C) where
  len := by show w.m.length ≤ (w.m ++ [some x]).length; simp
  loc := fun l a h => .inl (by
    show (w.m ++ [some x])[l]? = _
    rw [List.getElem?_append_left (List.getElem?_eq_some_iff.mp h).1]; exact h)
  dead := fun l h => by
    show (w.m ++ [some x])[l]? = _
    rw [List.getElem?_append_left (List.getElem?_eq_some_iff.mp h).1]; exact h
  keep := fun a u h _ => nob_ne hx hdx h
  fresh := fun a h => by
    rcases List.mem_append.mp (show some a ∈ w.m ++ [some x] from h) with z | z
    · exact .inl z
    · simp at z; subst z; exact .inr hx
  priv := fun _ h => h
  freshp := fun _ h => .inl h
  lck := fun a _ u h => nob_ne hx hdx h
  trk := fun a u h => ⟨u, nob_ne hx hdx h⟩
theorem StOk.nob {K : PySem.W.Frag} {st : Sto} (h : StOk K w st) (hx : w.H x = none) (hdx : w.H dx = none) {Cn : Str} (hC : PySem.W.nsIn K mainGlobals Cn = some (some (.ref C))) : StOk K (w.nob x dx C) (st ++ [.obj Cn []]) where
  len := by show (w.m ++ [some x]).length = _; simp [h.len]
  inj := fun l l' a q q' => by
    rcases loc_cases q with z | ⟨z, z2⟩ <;> rcases loc_cases q' with y | ⟨y, y2⟩
    · exact h.inj l l' a z y
    · cases y2; exact absurd (m_mem z) (h.new hx)
    · cases z2; exact absurd (m_mem y) (h.new hx)
    · rw [z, y]
  cell := fun l a q => by
    rcases loc_cases q with z | ⟨z, z2⟩
    · obtain ⟨c, hc, ok⟩ := h.cell l a z
      refine ⟨c, ?_, ok.put (Wd.nob_le hx hdx) fun u hu => nob_ne hx hdx hu⟩
      rw [List.getElem?_append_left (List.getElem?_eq_some_iff.mp hc).1]; exact hc
    · cases z2
      refine ⟨.obj Cn [], ?_, C, dx, [], hC, upd_same, .nil⟩
      rw [z, h.len]; simp
  prv := fun a q => by
    obtain ⟨u, hu⟩ := h.prv a q
    exact ⟨u, nob_ne hx hdx hu⟩
  dis := fun a q => by
    rcases List.mem_append.mp (show some a ∈ w.m ++ [some x] from q) with z | z
    · exact h.dis a z
    · simp at z; subst z; exact h.newp hx
  gone := fun l q => by
    rcases loc_cases q with z | ⟨_, z2⟩
    · have := h.gone l z
      rw [List.getElem?_append_left (List.getElem?_eq_some_iff.mp this).1]; exact this
    · cases z2
end
/-- what stands at an object's location -/
theorem obj_at {K : PySem.W.Frag} {w : Wd} {st : Sto} {x : PV} {u : V} {C : Str} {fs : Flds} (ok : StOk K w st) (r : Rep K w x u) (h : objAt st x = some (C, fs)) :
    ∃ (l : Nat) (a D dx : Addr) (us : List (Str × V)), x = .ref l ∧ u = .ref a ∧ st[l]? = some (.obj C fs) ∧ w.m[l]? = some (some a) ∧ PySem.W.nsIn K mainGlobals C = some (some (.ref D)) ∧ w.H a = some (.ins D dx us) ∧ RepF K w fs us := by
  unfold objAt at h
  split at h
  · rename_i l
    split at h
    · rename_i C' fs' hc
      cases h
      cases r with
      | ref e =>
        obtain ⟨c, hc2, o⟩ := ok.cell _ _ e
        rw [hc] at hc2
        cases hc2
        obtain ⟨D, dx, us, h1, h2, h3⟩ := o
        exact ⟨l, _, D, dx, us, rfl, rfl, hc, e, h1, h2, h3⟩
      | gone e =>
        have := ok.gone _ e
        rw [hc] at this
        cases this
    · cases h
  · cases h
/-- a live list is written no more -/
noncomputable def Wd.frz (w : Wd) (l : Nat) : Wd := ⟨w.m.set l none, w.p, w.H⟩
theorem frz_mem {m : List (Option Addr)} {l : Nat} {a : Addr} (h : some a ∈ m.set l none) : some a ∈ m := by
  rcases List.mem_or_eq_of_mem_set h with z | z
  · exact z
  · cases z
theorem Wd.frz_le {w : Wd} {l : Nat} : w.le (w.frz l) where
  len := by show w.m.length ≤ (w.m.set l none).length; simp
  loc := fun l' a h => by
    show (w.m.set l none)[l']? = _ ∨ (w.m.set l none)[l']? = _
    by_cases z : l = l'
    · subst z; exact .inr (List.getElem?_set_self (List.getElem?_eq_some_iff.mp h).1)
    · rw [List.getElem?_set_ne z]; exact .inl h
  dead := fun l' h => by
    show (w.m.set l none)[l']? = _
    by_cases z : l = l'
    · subst z; exact List.getElem?_set_self (List.getElem?_eq_some_iff.mp h).1
    · rw [List.getElem?_set_ne z]; exact h
  keep := fun _ _ h _ => h
  fresh := fun _ h => .inl (frz_mem h)
  priv := fun _ h => h
  freshp := fun _ h => .inl h
  lck := fun _ _ _ h => h
  trk := fun _ u h => ⟨u, h⟩
theorem StOk.frz {K : PySem.W.Frag} {w : Wd} {st : Sto} (h : StOk K w st) (l : Nat) : StOk K (w.frz l) (st.set l .dead) where
  len := by show (w.m.set l none).length = _; simp [h.len]
  inj := fun l1 l2 a q1 q2 => by
    have g : ∀ l', (w.m.set l none)[l']? = some (some a) → w.m[l']? = some (some a) := fun l' q => by
      by_cases z : l = l'
      · subst z
        rw [List.getElem?_set] at q
        simp only [ite_true] at q
        split at q <;> cases q
      · rwa [List.getElem?_set_ne z] at q
    exact h.inj l1 l2 a (g l1 q1) (g l2 q2)
  cell := fun l' a q => by
    have z : l ≠ l' := fun z => by
      subst z
      rw [show (w.frz l).m = w.m.set l none from rfl, List.getElem?_set] at q
      simp only [ite_true] at q
      split at q <;> cases q
    rw [show (w.frz l).m = w.m.set l none from rfl, List.getElem?_set_ne z] at q
    obtain ⟨c, hc, ok⟩ := h.cell l' a q
    exact ⟨c, by rw [List.getElem?_set_ne z]; exact hc, ok.put Wd.frz_le fun _ hu => hu⟩
  prv := h.prv
  dis := fun a q => h.dis a (frz_mem q)
  gone := fun l' q => by
    by_cases z : l = l'
    · subst z
      rw [show (w.frz l).m = w.m.set l none from rfl] at q
      have hl : l < st.length := by
        have := (List.getElem?_eq_some_iff.mp q).1
        rw [List.length_set, h.len] at this; exact this
      exact List.getElem?_set_self hl
    · rw [List.getElem?_set_ne z]
      rw [show (w.frz l).m = w.m.set l none from rfl, List.getElem?_set_ne z] at q
      exact h.gone l' q
theorem StOk.frz_rep {K : PySem.W.Frag} {w : Wd} {st : Sto} (h : StOk K w st) {l : Nat} {a : Addr} {xs : List PV} (e : w.m[l]? = some (some a)) (hc : st[l]? = some (.lst xs)) : Rep K (w.frz l) (.lst xs) (.ref a) := by
  obtain ⟨c, hc2, ok⟩ := h.cell l a e
  rw [hc] at hc2
  cases hc2
  obtain ⟨us, hu, r⟩ := ok
  refine .lst hu ⟨fun z => ?_, h.dis a (m_mem e)⟩ (r.mono Wd.frz_le)
  obtain ⟨l', e'⟩ := mem_m (w := w.frz l) z
  rw [show (w.frz l).m = w.m.set l none from rfl] at e'
  by_cases y : l = l'
  · subst y
    rw [List.getElem?_set] at e'
    simp only [ite_true] at e'
    split at e' <;> cases e'
  · rw [List.getElem?_set_ne y] at e'
    exact y (h.inj l l' a e e')
/-- what is read, and never kept -/
noncomputable def RepW (K : PySem.W.Frag) (w : Wd) (v : PV) (u : V) : Prop := Rep K w v u ∨ ∃ xs a us, v = .lst xs ∧ u = .ref a ∧ w.H a = some (.lst us) ∧ Reps K w xs us
theorem Rep.wk {K : PySem.W.Frag} {w : Wd} {v : PV} {u : V} (h : Rep K w v u) : RepW K w v u := .inl h
theorem Rep.deref {K : PySem.W.Frag} {w : Wd} {st : Sto} (ok : StOk K w st) {v : PV} {u : V} (h : Rep K w v u) : RepW K w (deref st v) u := by
  cases h with
  | ref e =>
    obtain ⟨c, hc, ok⟩ := ok.cell _ _ e
    cases c with
    | dead => exact ok.elim
    | lst xs =>
      obtain ⟨us, hu, r⟩ := ok
      simp only [PL.deref, hc]
      exact .inr ⟨xs, _, us, rfl, rfl, hu, r⟩
    | obj C fs =>
      simp only [PL.deref, hc]
      exact .inl (.ref e)
    | dct t kvs =>
      simp only [PL.deref, hc]
      exact .inl (.ref e)
    | fdc kvs =>
      simp only [PL.deref, hc]
      exact .inl (.ref e)
  | gone e =>
    simp only [PL.deref, ok.gone _ e]
    exact .inl (.gone e)
  | non => exact .inl .non
  | bl b => exact .inl (.bl b)
  | int i => exact .inl (.int i)
  | str z h => exact .inl (.str z h)
  | tup h r => exact .inl (.tup h r)
  | lst h n r => exact .inl (.lst h n r)
  | scr h => exact .inl (.scr h)
inductive RepsW (K : PySem.W.Frag) (w : Wd) : List PV → List V → Prop
  | nil : RepsW K w [] []
  | cons {x : PV} {xs : List PV} {u : V} {us : List V} : RepW K w x u → RepsW K w xs us → RepsW K w (x :: xs) (u :: us)
theorem Reps.derefs {K : PySem.W.Frag} {w : Wd} {st : Sto} (ok : StOk K w st) : ∀ {v : List PV} {u : List V}, Reps K w v u → RepsW K w (derefs st v) u
  | _, _, .nil => .nil
  | _, _, .cons h r => .cons (h.deref ok) (Reps.derefs ok r)
theorem RepW.dp {K : PySem.W.Frag} {w : Wd} {v : PV} {u : V} (h : RepW K w v u) (d : v.isData = true) : Dp K w.H u v.toD := by
  rcases h with h | ⟨xs, a, us, rfl, rfl, h, r⟩
  · exact h.dp d
  · unfold PV.toD
    exact .lst (SqL.of h) (Reps.dp r (by simpa [PV.isData] using d))

/-- the frame's names -/
noncomputable def EnvOk (K : PySem.W.Frag) (w : Wd) (e : Env) (σ : St) : Prop := ∀ (i : Nat) (v : PV), e[i]? = some (some v) → ∃ u, σ[i]? = some (some u) ∧ Rep K w v u
theorem EnvOk.mono0 {K : PySem.W.Frag} {w w' : Wd} {e : Env} {σ : St} (h : EnvOk K w e σ) (hw : w.le0 w') : EnvOk K w' e σ := fun i v q => by
  obtain ⟨u, h1, h2⟩ := h i v q
  exact ⟨u, h1, h2.mono0 hw⟩
theorem EnvOk.mono {K : PySem.W.Frag} {w w' : Wd} {e : Env} {σ : St} (h : EnvOk K w e σ) (hw : w.le w') : EnvOk K w' e σ := h.mono0 hw.toLe0
theorem EnvOk.set {K : PySem.W.Frag} {w : Wd} {e : Env} {σ : St} {v : PV} {u : V} (h : EnvOk K w e σ) (r : Rep K w v u) (i : Nat) (hi : i < σ.length) : EnvOk K w (e.set i (some v)) (σ.set i (some u)) := fun j x q => by
  by_cases hj : i = j
  · subst hj
    rw [List.getElem?_set] at q
    simp only [ite_true] at q
    split at q
    · cases q
      exact ⟨u, by rw [List.getElem?_set_self hi], r⟩
    · cases q
  · rw [List.getElem?_set_ne hj] at q
    obtain ⟨u', h1, h2⟩ := h j x q
    exact ⟨u', by rw [List.getElem?_set_ne hj]; exact h1, h2⟩
theorem EnvOk.wipe {K : PySem.W.Frag} {w : Wd} {e : Env} {σ : St} (h : EnvOk K w e σ) : ∀ (vs : List Nat), EnvOk K w (wipeR e vs) (wipe σ vs)
  | [] => h
  | v :: vs => fun j x q => by
    have ih := EnvOk.wipe h vs
    unfold wipeR at q
    unfold L2.wipe
    by_cases hj : v = j
    · subst hj
      rw [List.getElem?_set] at q
      simp only [ite_true] at q
      split at q <;> cases q
    · rw [List.getElem?_set_ne hj] at q ⊢
      exact ih j x q
end PL

/-! TM: tuple * small ints. -/
namespace L2
open PySem PySem.Spec PyProof.Rows
theorem tuple_mul1 (l : Addr) (items : Array Value) (n : Nat) (dd : Option Addr) (sl : Array (Option Value)) (u : Tok) :
    Meets (Builtin.«tuple.__mul__» ⟨[.ref l, .int 1 u], []⟩) (fun _ R s => s.heap.get? l = some { cls := .type "tuple", dict := dd, data := .seq items n, slots := sl } ∧ R (.ok (.ret (Value.ref l))) s) :=
  .of_wp fun prog w A R s h => by
    obtain ⟨hp, g, d, tk, os⟩ := s
    obtain ⟨hl, h⟩ := h
    have f1 := AutoSeq1.idx_int
    have c0 : (decide ((1 : Int) < -(2 ^ 63)) || decide ((1 : Int) ≥ 2 ^ 63)) = false := by decide
    have c1 : (items.isEmpty || (1 : Int) == 1) = true := by simp
    wp_walk using wpAny_loadPart' hl
    repeat (first
      | (refine wpAny_ite_false (decide_eq_false (by rw [c0]; exact Bool.false_ne_true)) ?_; wp_walk using wpAny_loadPart' hl)
      | (refine wpAny_ite_true (decide_eq_true c1) ?_; wp_walk using wpAny_loadPart' hl))
    exact ⟨_, rfl, h⟩
theorem tuple_mul0 (l : Addr) (items : Array Value) (n : Nat) (dd : Option Addr) (sl : Array (Option Value)) (x : Int) (u : Tok) (c0 : (decide (x < -(2 ^ 63)) || decide (x ≥ 2 ^ 63)) = false) (c1 : (items.isEmpty || x == 1) = false) (c2 : (decide (x ≤ 0) || items.isEmpty) = true) :
    Meets (Builtin.«tuple.__mul__» ⟨[.ref l, .int x u], []⟩) (fun _ R s => s.heap.get? l = some { cls := .type "tuple", dict := dd, data := .seq items n, slots := sl } ∧
      R (.ok (.ret (Value.ref s.heap.objs.size))) { s with heap := s.heap.push { cls := Value.type "tuple", data := Data.seq #[] }, toks := s.toks }) :=
  .of_wp fun prog w A R s h => by
    obtain ⟨hp, g, d, tk, os⟩ := s
    obtain ⟨hl, h⟩ := h
    have f1 := AutoSeq1.idx_int
    wp_walk using wpAny_loadPart' hl
    repeat (first
      | (refine wpAny_ite_false (decide_eq_false (by rw [c0]; exact Bool.false_ne_true)) ?_; wp_walk using wpAny_loadPart' hl)
      | (refine wpAny_ite_false (decide_eq_false (by rw [c1]; exact Bool.false_ne_true)) ?_; wp_walk using wpAny_loadPart' hl)
      | (refine wpAny_ite_true (decide_eq_true c2) ?_; wp_walk using wpAny_loadPart' hl))
    exact ⟨_, rfl, h⟩
section
variable {X : Cx}
noncomputable def rRepT1 (K : PySem.W.Frag) : R2 := fun x y H Q => ∃ l xs, x = .ref l ∧ y = .int 1 ∧ SqT K H l xs ∧ Q (.ref l) H
theorem op_repT1 : OpR X (binaryOp .Mult) (rRepT1 X.K) := by
  intro pins s σ H x y v u Q I rx ry h
  obtain ⟨l, xs, rfl, rfl, hT, q⟩ := h
  cases rx
  obtain ⟨t, rfl⟩ := ry
  obtain ⟨its, r, ⟨⟨cls, dd, data, sl⟩, ho, hc, n, hd⟩, hs⟩ := I.tuple hT
  simp only at hc hd
  subst hc hd
  refine wpAny_binaryOp_repeat_ref (T := "tuple") (U := "int") (by decide) ⟨_, ho, rfl⟩ (fun s' => typeIs_int s' 1 t) noFill_tuple_mul F.fills_int_mul F.slot_int_rmul repeat_tuple F.slot_int_index.lookup
    (call_meets F.slot_int_rmul (typeIs_int s 1 t) F.entry_int_rmul (F.args_int_rmul_2 _ _) (int_rmul_tuple 1 t l its.toArray n dd sl)
      ⟨ho, rfl, ⟨_, ho, rfl⟩, call_meets F.slot_tuple_mul ⟨_, ho, rfl⟩ F.entry_tuple_mul (F.args_tuple_mul_2 _ _) (tuple_mul1 l its.toArray n dd sl t) ⟨ho, ?_⟩⟩)
  exact ⟨.ref l, H, I, rfl, q⟩
noncomputable def rRepT0 (K : PySem.W.Frag) : R2 := fun x y H Q => ∃ l k xs, x = .ref l ∧ y = .int k ∧ SqT K H l xs ∧ xs ≠ [] ∧ -(2 ^ 62) < k ∧ k ≤ 0 ∧ ∀ p, H p = none → Q (.ref p) (upd H p (.tup []))
theorem op_repT0 : OpR X (binaryOp .Mult) (rRepT0 X.K) := by
  intro pins s σ H x y v u Q I rx ry h
  obtain ⟨l, k, xs, rfl, rfl, hT, hne, h1, h2, q⟩ := h
  cases rx
  obtain ⟨t, rfl⟩ := ry
  obtain ⟨its, r, ⟨⟨cls, dd, data, sl⟩, ho, hc, n, hd⟩, hs⟩ := I.tuple hT
  simp only at hc hd
  subst hc hd
  have hle : its.length = xs.length := r.length.symm
  have hn : its ≠ [] := fun e => hne (by
    rw [e] at hle
    exact List.eq_nil_of_length_eq_zero hle.symm)
  have hi : its.toArray.isEmpty = false := by
    cases its with
    | nil => exact absurd rfl hn
    | cons a b => rfl
  have c0 : (decide (k < -(2 ^ 63)) || decide (k ≥ 2 ^ 63)) = false := by
    rw [decide_eq_false (by omega), decide_eq_false (by omega)] <;> rfl
  have c1 : (its.toArray.isEmpty || k == 1) = false := by
    rw [hi, Bool.false_or]
    exact beq_eq_false_iff_ne.mpr (by omega)
  have c2 : (decide (k ≤ 0) || its.toArray.isEmpty) = true := by
    rw [decide_eq_true h2]; rfl
  refine wpAny_binaryOp_repeat_ref (T := "tuple") (U := "int") (by decide) ⟨_, ho, rfl⟩ (fun s' => typeIs_int s' k t) noFill_tuple_mul F.fills_int_mul F.slot_int_rmul repeat_tuple F.slot_int_index.lookup
    (call_meets F.slot_int_rmul (typeIs_int s k t) F.entry_int_rmul (F.args_int_rmul_2 _ _) (int_rmul_tuple k t l its.toArray n dd sl)
      ⟨ho, rfl, ⟨_, ho, rfl⟩, call_meets F.slot_tuple_mul ⟨_, ho, rfl⟩ F.entry_tuple_mul (F.args_tuple_mul_2 _ _) (tuple_mul0 l its.toArray n dd sl k t c0 c1 c2) ⟨ho, ?_⟩⟩)
  refine ⟨.ref s.heap.objs.size, _, I.laid (t' := s.toks) (o := .tup []) (fun b ob q => Heap.get?_push_of_some _ q) (Nat.le_refl _) ?_, rfl, q _ (I.hok.fresh (Nat.le_refl _))⟩
  exact ⟨by simp, [], .nil, IsTup.new _ _⟩
end
end L2

/-! RV: a tuple the other way about. -/
namespace HT
open PySem PySem.Spec PyProof.Rows
section
variable {prog : Program} {w : World} {A : Around} {E : Value → Shared → Prop} {s : Shared}
theorem sliceApplied_rev {sl : Addr} {t : Tok} {n : Nat} {Q : Int × Int × Nat → Shared → Prop} (hs : s.heap.IsSliceOf sl .none .none (.int (-1) t))
    (h : Q ((n : Int) - 1, -1, n) s) : wpAny (model prog w) A (Builtin.Slice.sliceApplied (.ref sl) (pure (n : Int))) Q E s := by
  obtain ⟨os, hos, hcs, hds⟩ := id hs
  unfold Builtin.Slice.sliceApplied Builtin.Slice.sliceFields
  refine wpAny_bind (wpAny_bind (wpAny_field hos hds (x := .none) rfl (wpAny_bind (wpAny_field hos hds (x := .none) rfl (wpAny_bind (wpAny_field hos hds (x := .int (-1) t) rfl (wpAny_pure ?_)))))))
  refine wpAny_bind (slicePart_int ?_)
  show wpAny _ _ (if ((-1 : Int) == 0) = true then _ else _) _ _ s
  rw [if_neg (by decide)]
  refine wpAny_bind (slicePart_none (wpAny_bind (slicePart_none (wpAny_bind (wpAny_pure ?_)))))
  show wpAny _ _ (pure ((n : Int) - 1, (-1 : Int), Builtin.Slice.slicePlaces ((n : Int) - 1) (-1) (-1))) _ _ s
  have e : Builtin.Slice.slicePlaces ((n : Int) - 1) (-1) (-1) = n := by
    unfold Builtin.Slice.slicePlaces
    rw [if_neg (by omega)]
    by_cases h0 : n = 0
    · subst h0; rfl
    · rw [if_pos (by omega)]
      have : ((n : Int) - 1 - -1 - 1) / (- -1) + 1 = (n : Int) := by
        rw [show (- -1 : Int) = 1 from rfl, Int.ediv_one]; omega
      rw [this]; omega
  rw [e]
  exact wpAny_pure h
theorem pick_rev (xs : Array Value) : ((List.range xs.size).filterMap fun (m : Nat) => xs[(((xs.size : Nat) : Int) - 1 + (m : Int) * (-1)).toNat]?).toArray = xs.toList.reverse.toArray := by
  congr 1
  have key : ∀ m ∈ List.range xs.size, xs[(((xs.size : Nat) : Int) - 1 + (m : Int) * (-1)).toNat]? = xs.toList.reverse[m]? := fun m hm => by
    have hm := List.mem_range.mp hm
    have e : (((xs.size : Nat) : Int) - 1 + (m : Int) * (-1)).toNat = xs.size - 1 - m := by omega
    rw [e, List.getElem?_reverse (by simpa using hm)]
    simp
  have gen : ∀ (l : List Value), ((List.range l.length).filterMap fun (m : Nat) => l[m]?) = l := fun l => by
    induction l with
    | nil => rfl
    | cons a r ih =>
      rw [List.length_cons, List.range_succ_eq_map, List.filterMap_cons]
      simp only [List.getElem?_cons_zero, List.filterMap_map]
      congr 1
  have hl : xs.toList.reverse.length = xs.size := by simp
  have g := gen xs.toList.reverse
  rw [hl] at g
  have cg : ∀ (l : List Nat) (f h : Nat → Option Value), (∀ m ∈ l, f m = h m) → l.filterMap f = l.filterMap h := by
    intro l f h
    induction l with
    | nil => intro _; rfl
    | cons a r ih => intro H; rw [List.filterMap_cons, List.filterMap_cons, H a (by simp), ih fun m hm => H m (by simp [hm])]
  rw [cg _ _ _ key]
  exact g
theorem getItem_tuple_rev {t sl : Addr} {items : Array Value} {tk : Tok} {Q : Value → Shared → Prop} (ht : IsTup s.heap t items) (hs : s.heap.IsSliceOf sl .none .none (.int (-1) tk))
    (h : Q (.ref s.heap.objs.size) { s with heap := s.heap.push { cls := .type "tuple", data := .seq items.toList.reverse.toArray } })
    (hsz : items.size ≤ sizeLine) : wpAny (model prog w) A (getItem (.ref t) (.ref sl)) Q E s := by
  have htake : sizeOk (.seq items.toList.reverse.toArray) := by
    show items.toList.reverse.toArray.size ≤ sizeLine
    simpa using hsz
  obtain ⟨os, hos, hcs, hds⟩ := id hs
  have hTs : s.TypeIs (.ref sl) "slice" := ⟨os, hos, hcs⟩
  unfold getItem
  try with_reducible refine wpAny_holding ?_
  first | refine wpAny_bind (wpAny_pure ?_) | skip
  refine wpAny_bind (wpAny_sequenceKey ht.typeIs (by decide) ?_)
  refine wpAny_bind (wpAny_callSpecial?_slot (name := Str.ofString "__getitem__") ht.typeIs PyProof.Rows.slot_tuple_getitem
    (wpAny_call_entry PyProof.Rows.slot_tuple_getitem ht.typeIs entry_tuple_getitem ?_ (args_tuple_getitem _ _)))
  show wpAny _ _ (Builtin.Tuple.tupleItemsOf (.ref t) >>= _) _ _ s
  refine wpAny_bind (tupleItemsOf_ ht ?_)
  refine wpAny_bind (wpAny_typeOf hTs ?_)
  rw [if_pos (by decide)]
  refine wpAny_bind (sliceApplied_rev hs ?_)
  have hno : ¬ ((((items.size : Int) - 1) == 0 && (-1 : Int) == 1 && items.size == items.size) = true) := by
    intro q
    rw [Bool.and_eq_true, Bool.and_eq_true] at q
    exact absurd q.1.2 (by decide)
  show wpAny _ _ (if ((((items.size : Nat) : Int) - 1) == 0 && (-1 : Int) == 1 && items.size == items.size) = true then _ else _) _ _ s
  rw [if_neg hno, pick_rev]
  first
    | exact wpAny_bind (m := Builtin.Tuple.tupleExact _) (wpAny_newObj_type (wpAny_pure ⟨_, rfl, wpAny_pure h⟩) htake)
    | exact wpAny_bind (m := Builtin.Tuple.tupleExact _) (wpAny_newObj_type (wpAny_bind (wpAny_pure (wpAny_pure ⟨_, rfl, wpAny_pure h⟩))) htake)
    | exact wpAny_bind (wpAny_bind (m := Builtin.Tuple.tupleExact _) (wpAny_newObj_type (wpAny_pure (wpAny_pure ⟨_, rfl, wpAny_pure h⟩)) htake))
    | exact wpAny_bind (wpAny_bind (m := Builtin.Tuple.tupleExact _) (wpAny_newObj_type (wpAny_pure ⟨_, rfl, wpAny_pure h⟩) htake))
end
end HT
namespace L2
open PySem PySem.Spec PyProof.Rows
section
variable {X : Cx} {e st : Expr} {te ts : TE} {pos p2 : Pos}
theorem vals_reverse : ∀ {xs : List V} {us : List Value}, Vals xs us → Vals xs.reverse us.reverse
  | _, _, .nil => .nil
  | _, _, .cons r t => by
    rw [List.reverse_cons, List.reverse_cons]
    exact (vals_reverse t).append (.cons r .nil)
noncomputable def tRev (K : PySem.W.Frag) (te ts : TE) : TE := fun σ H Q => te σ H fun x H1 => ts σ H1 fun y H2 => y = .int (-1) ∧ ∃ a xs, x = .ref a ∧ SqT K H2 a xs ∧ ∀ p, H2 p = none → Q (.ref p) (upd H2 p (.tup xs.reverse))
theorem pe_rev (he : PE X e te) (hst : PE X st ts) : PE X (.Subscript e (.Slice none none (some st) p2) pos) (tRev X.K te ts) := by
  refine ⟨fun pins s σ H Q I h => ?_⟩
  refine Subscript_ (thn (he.run pins s σ H _ I h) fun v s1 ⟨x, H1, I1, r1, q1⟩ => ?_)
  refine wpAny_Slice ?_
  rw [evalPart_none]
  refine wpAny_pure ?_
  refine wpAny_pure ?_
  rw [evalPart_some]
  refine thn (hst.run pins s1 σ H1 _ I1 q1) fun u s3 ⟨y, H3, I3, ry, q3⟩ => ?_
  obtain ⟨rfl, a, xs, rfl, hx, q⟩ := q3
  obtain ⟨tk, rfl⟩ := ry
  cases r1
  have I4 : Inv X pins σ H3 { s3 with heap := s3.heap.push { cls := .type "slice", data := .fields #[.none, .none, .int (-1) tk] } } := I3.kept (t' := s3.toks) fun b ob q => Heap.get?_push_of_some _ q
  obtain ⟨its, r, ht, hz⟩ := I4.tuple hx
  have hlen : its.toArray.size = xs.length := by rw [List.size_toArray]; exact r.length.symm
  show wpAny (model X.prog X.w) X.A (subscriptTail e (.Slice none none (some st) p2) (.ref a) (.ref s3.heap.objs.size)) (EP X pins σ Q) X.xe { s3 with heap := s3.heap.push { cls := .type "slice", data := .fields #[.none, .none, .int (-1) tk] } }
  refine tail_any (ops := [.ref a, .ref s3.heap.objs.size]) ht.typeIs PyProof.Rows.slot_tuple_getitem.lookup (HT.getItem_tuple_rev ht (Heap.IsSliceOf.new ..) ?_ (by rw [hlen]; exact hz)) (by with_unfolding_all rfl)
  refine ⟨.ref _, _, I4.laid (o := .tup xs.reverse) (fun b ob q => Heap.get?_push_of_some _ q) (Nat.le_refl _) ?_, rfl, q _ (I4.hok.fresh (Nat.le_refl _))⟩
  exact ⟨by rw [List.length_reverse]; exact hz, its.reverse, vals_reverse r, IsTup.new _ _⟩
end
end L2

/-! PL3: the operations on values are the machine's. -/
namespace PL
open PySem L2

/-- two values in, one out, the store as it was -/
noncomputable def RV2 (K : PySem.W.Frag) (f : PV → PV → Option PV) : R2 := fun x y H Q => ∃ (w : Wd) (st : Sto) (a b v : PV), w.H = H ∧ StOk K w st ∧ RepW K w a x ∧ RepW K w b y ∧ f a b = some v ∧ Gets K w v st Q
/-- .. a truth value out -/
noncomputable def RB2 (K : PySem.W.Frag) (f : PV → PV → Option Bool) : R2 := fun x y H Q => ∃ (w : Wd) (a b : PV) (k : Bool), w.H = H ∧ RepW K w a x ∧ RepW K w b y ∧ f a b = some k ∧ Q (.bl k) H

section
variable {X : Cx}
theorem str_eq (z : Str) : (⟨z.cps.toList.toArray⟩ : Str) = z := by cases z; simp
theorem len_eq (z : Str) : z.length = z.cps.toList.length := by unfold Str.length; simp
theorem Rep.ofStr {K : PySem.W.Frag} {w : Wd} {s : List Nat} (h : s.length ≤ sizeLine) : Rep K w (.str s) (.str ⟨s.toArray⟩) := by
  have := Rep.str (K := K) (w := w) ⟨s.toArray⟩ (by rw [len_eq]; simpa using h)
  simpa using this
theorem Rep.str_inv {K : PySem.W.Frag} {w : Wd} {s : List Nat} {u : V} (h : Rep K w (.str s) u) : ∃ z : Str, u = .str z ∧ z.cps.toList = s ∧ z.length ≤ sizeLine := by
  cases h with
  | str z hz => exact ⟨z, rfl, rfl, hz⟩
theorem Rep.int_inv {K : PySem.W.Frag} {w : Wd} {i : Int} {u : V} (h : Rep K w (.int i) u) : u = .int i := by
  cases h; rfl
theorem Rep.bl_inv {K : PySem.W.Frag} {w : Wd} {b : Bool} {u : V} (h : Rep K w (.bl b) u) : u = .bl b := by
  cases h; rfl
theorem Rep.non_inv {K : PySem.W.Frag} {w : Wd} {u : V} (h : Rep K w .non u) : u = .non := by
  cases h; rfl
theorem Rep.tup_inv {K : PySem.W.Frag} {w : Wd} {xs : List PV} {u : V} (h : Rep K w (.tup xs) u) : ∃ a us, u = .ref a ∧ SqI K w a us ∧ Reps K w xs us := by
  cases h with
  | tup h r => exact ⟨_, _, rfl, h, r⟩
theorem Rep.lst_inv {K : PySem.W.Frag} {w : Wd} {xs : List PV} {u : V} (h : Rep K w (.lst xs) u) : ∃ a us, u = .ref a ∧ w.H a = some (.lst us) ∧ (some a ∉ w.m ∧ a ∉ w.p) ∧ Reps K w xs us := by
  cases h with
  | lst h n r => exact ⟨_, _, rfl, h, n, r⟩
theorem Rep.scr_inv {K : PySem.W.Frag} {w : Wd} {ns : List Int} {u : V} (h : Rep K w (.scr ns) u) : ∃ a, u = .ref a ∧ SqS K w a (ns.map V.int) := by
  cases h with
  | scr h => exact ⟨_, rfl, h⟩

theorem RepW.rep {K : PySem.W.Frag} {w : Wd} {v : PV} {u : V} (h : RepW K w v u) (n : ∀ xs, v ≠ .lst xs) : Rep K w v u := by
  rcases h with h | ⟨xs, _, _, rfl, _⟩
  · exact h
  · exact absurd rfl (n xs)
theorem RepW.str_inv {K : PySem.W.Frag} {w : Wd} {s : List Nat} {u : V} (h : RepW K w (.str s) u) : ∃ z : Str, u = .str z ∧ z.cps.toList = s ∧ z.length ≤ sizeLine := (h.rep fun _ z => by cases z).str_inv
theorem RepW.int_inv {K : PySem.W.Frag} {w : Wd} {i : Int} {u : V} (h : RepW K w (.int i) u) : u = .int i := (h.rep fun _ z => by cases z).int_inv
theorem RepW.bl_inv {K : PySem.W.Frag} {w : Wd} {b : Bool} {u : V} (h : RepW K w (.bl b) u) : u = .bl b := (h.rep fun _ z => by cases z).bl_inv
theorem RepW.non_inv {K : PySem.W.Frag} {w : Wd} {u : V} (h : RepW K w .non u) : u = .non := (h.rep fun _ z => by cases z).non_inv
theorem RepW.tup_rep {K : PySem.W.Frag} {w : Wd} {xs : List PV} {u : V} (h : RepW K w (.tup xs) u) : Rep K w (.tup xs) u := h.rep fun _ z => by cases z
theorem RepW.tup_inv {K : PySem.W.Frag} {w : Wd} {xs : List PV} {u : V} (h : RepW K w (.tup xs) u) : ∃ a us, u = .ref a ∧ SqI K w a us ∧ Reps K w xs us := h.tup_rep.tup_inv
theorem RepW.scr_inv {K : PySem.W.Frag} {w : Wd} {ns : List Int} {u : V} (h : RepW K w (.scr ns) u) : ∃ a, u = .ref a ∧ SqS K w a (ns.map V.int) := (h.rep fun _ z => by cases z).scr_inv
theorem RepW.lst_inv {K : PySem.W.Frag} {w : Wd} {xs : List PV} {u : V} (h : RepW K w (.lst xs) u) : ∃ a us, u = .ref a ∧ w.H a = some (.lst us) ∧ Reps K w xs us := by
  rcases h with h | ⟨xs', a, us, e, rfl, h, r⟩
  · obtain ⟨a, us, e, h1, _, r⟩ := h.lst_inv
    exact ⟨a, us, e, h1, r⟩
  · cases e
    exact ⟨a, us, rfl, h, r⟩

theorem o_add : OpR X (binaryOp .Add) (RV2 X.K addV) := by
  intro pins s σ H x y v u Q I rx ry h
  obtain ⟨w, st, a, b, r, rfl, ok, ra, rb, e, g⟩ := h
  cases a <;> cases b <;> simp only [addV, reduceCtorEq, Option.ite_none_right_eq_some, Option.some.injEq] at e
  · subst e
    cases ra.int_inv; cases rb.int_inv
    exact op_add pins s σ w.H _ _ v u Q I rx ry ⟨_, _, rfl, rfl, g.same ok (.int _)⟩
  · obtain ⟨hz, rfl⟩ := e
    obtain ⟨z, rfl, rfl, hz1⟩ := ra.str_inv
    obtain ⟨z', rfl, rfl, hz2⟩ := rb.str_inv
    rw [← len_eq, ← len_eq] at hz
    refine op_add_str pins s σ w.H _ _ v u Q I rx ry ⟨_, _, rfl, rfl, hz, ?_⟩
    have e1 : (z ++ z').cps.toList = z.cps.toList ++ z'.cps.toList := by
      show (z.cps ++ z'.cps).toList = _
      simp
    have := Rep.str (K := X.K) (w := w) (z ++ z') (by rw [len_eq, e1, List.length_append, ← len_eq, ← len_eq]; exact hz)
    rw [e1] at this
    exact g.same ok this
  · obtain ⟨hz, rfl⟩ := e
    obtain ⟨a1, us, rfl, h1, r1⟩ := ra.tup_inv
    obtain ⟨a2, us2, rfl, h2, r2⟩ := rb.tup_inv
    refine op_catA pins s σ w.H _ _ v u Q I rx ry ⟨a1, a2, us, us2, rfl, rfl, h1.sq, h2.sq, by rw [← r1.length, ← r2.length]; exact hz, fun z => ?_, fun _ z => ?_, fun _ _ p hp => ?_⟩
    · subst z
      cases r1
      exact g.same ok rb.tup_rep
    · subst z
      cases r2
      rw [List.append_nil] at g
      exact g.same ok ra.tup_rep
    · exact g.tup ok (r1.append r2) hp
  · obtain ⟨hz, rfl⟩ := e
    obtain ⟨a1, us, rfl, h1, r1⟩ := ra.lst_inv
    obtain ⟨a2, us2, rfl, h2, r2⟩ := rb.lst_inv
    exact op_cat pins s σ w.H _ _ v u Q I rx ry ⟨a1, a2, us, us2, rfl, rfl, h1, h2, by rw [← r1.length, ← r2.length]; exact hz, fun p hp => g.lst ok (r1.append r2) hp⟩
theorem o_sub : OpR X (binaryOp .Sub) (RV2 X.K subV) := by
  intro pins s σ H x y v u Q I rx ry h
  obtain ⟨w, st, a, b, r, rfl, ok, ra, rb, e, g⟩ := h
  cases a <;> cases b <;> simp only [subV, reduceCtorEq, Option.some.injEq] at e
  subst e
  cases ra.int_inv; cases rb.int_inv
  exact op_sub pins s σ w.H _ _ v u Q I rx ry ⟨_, _, rfl, rfl, g.same ok (.int _)⟩
theorem o_fdiv : OpR X (binaryOp .FloorDiv) (RV2 X.K fdivV) := by
  intro pins s σ H x y v u Q I rx ry h
  obtain ⟨w, st, a, b, r, rfl, ok, ra, rb, e, g⟩ := h
  cases a <;> cases b <;> simp only [fdivV, reduceCtorEq, Option.ite_none_right_eq_some, Option.some.injEq] at e
  obtain ⟨hz, rfl⟩ := e
  cases ra.int_inv; cases rb.int_inv
  exact op_fdiv pins s σ w.H _ _ v u Q I rx ry ⟨_, _, rfl, rfl, hz, g.same ok (.int _)⟩
theorem o_mod : OpR X (binaryOp .Mod) (RV2 X.K modV) := by
  intro pins s σ H x y v u Q I rx ry h
  obtain ⟨w, st, a, b, r, rfl, ok, ra, rb, e, g⟩ := h
  cases a <;> cases b <;> simp only [modV, reduceCtorEq, Option.ite_none_right_eq_some, Option.some.injEq] at e
  obtain ⟨hz, rfl⟩ := e
  cases ra.int_inv; cases rb.int_inv
  exact op_mod pins s σ w.H _ _ v u Q I rx ry ⟨_, _, rfl, rfl, hz, g.same ok (.int _)⟩
theorem tl_reps (z : Str) : ∀ k : Nat, ((List.replicate k z.cps).foldl (· ++ ·) #[]).toList = (List.replicate k z.cps.toList).flatten := by
  have all : ∀ (k : Nat) (acc : Array Nat), ((List.replicate k z.cps).foldl (· ++ ·) acc).toList = acc.toList ++ (List.replicate k z.cps.toList).flatten := by
    intro k
    induction k with
    | zero => intro acc; simp
    | succ k ih =>
      intro acc
      rw [List.replicate_succ, List.foldl_cons, ih, List.replicate_succ, List.flatten_cons, Array.toList_append, List.append_assoc]
  intro k
  rw [all]; rfl
theorem tl_mul (z : Str) (n : Int) : (Txt.mul z n).cps.toList = (List.replicate n.toNat z.cps.toList).flatten := by
  unfold Txt.mul
  by_cases h1 : n < 1
  · rw [if_pos h1, show n.toNat = 0 by omega]; rfl
  · rw [if_neg h1]
    by_cases h2 : (n == 1 || z.length == 0) = true
    · rw [if_pos h2]
      rcases Bool.or_eq_true_iff.mp h2 with h | h
      · have e : n = 1 := by simpa using h
        subst e
        simp
      · have e : z.cps.toList = [] := by
          have : z.length = 0 := by simpa using h
          rw [len_eq] at this
          exact List.eq_nil_of_length_eq_zero this
        rw [e]
        simp
    · rw [if_neg h2]
      exact tl_reps z _
theorem o_mul : OpR X (binaryOp .Mult) (RV2 X.K mulV) := by
  intro pins s σ H x y v u Q I rx ry h
  obtain ⟨w, st, a, b, r, rfl, ok, ra, rb, e, g⟩ := h
  cases a <;> cases b <;> simp only [mulV, reduceCtorEq, Option.ite_none_right_eq_some, Option.some.injEq] at e
  · rename_i i j
    obtain ⟨hz, rfl⟩ := e
    cases ra.int_inv; cases rb.int_inv
    have c : CMul i j := by
      rcases Bool.or_eq_true_iff.mp hz with h | h
      · unfold small64 at h
        simp only [Bool.and_eq_true, decide_eq_true_eq] at h
        exact .inl h
      · unfold small64 at h
        simp only [Bool.and_eq_true, decide_eq_true_eq] at h
        exact .inr h
    exact op_mul pins s σ w.H _ _ v u Q I rx ry ⟨_, _, rfl, rfl, c, g.same ok (.int _)⟩
  · rename_i cs n
    obtain ⟨⟨h1, h2, hz⟩, rfl⟩ := e
    obtain ⟨z, rfl, rfl, hz1⟩ := ra.str_inv
    cases rb.int_inv
    obtain ⟨t, rfl⟩ := rx
    obtain ⟨t', rfl⟩ := ry
    have hl : (Txt.mul z n).length ≤ sizeLine := by
      rw [len_eq, tl_mul, List.length_flatten, List.map_replicate, List.sum_replicate_nat, Nat.mul_comm]
      exact hz
    have mo : MulOk z n := by
      refine ⟨by simp only [Bool.or_eq_false_iff, decide_eq_false_iff_not]; constructor <;> omega, fun h3 h4 => ?_, fun h3 h4 => ?_⟩
      · have q : 0 < n := by omega
        intro h5
        have : (z.length : Int) * n ≤ SZ := by
          have e1 : n = ((n.toNat : Nat) : Int) := by omega
          rw [e1, len_eq]
          exact_mod_cast hz
        have h6 : (z.length : Int) * n > (2 ^ 63 - 1) / n * n := Int.mul_lt_mul_of_pos_right h5 q
        have h7 := Int.emod_add_mul_ediv (2 ^ 63 - 1) n
        have h8 := Int.emod_lt_of_pos (2 ^ 63 - 1) q
        have h9 : n * ((2 ^ 63 - 1) / n) = (2 ^ 63 - 1) / n * n := Int.mul_comm _ _
        have h10 : (SZ : Int) = 16777216 := rfl
        omega
      · unfold Builtin.Str.tooLong
        rw [len_eq]
        simp only [decide_eq_false_iff_not, Nat.not_lt, gt_iff_lt]
        have : z.cps.toList.length * n.toNat ≤ 16777216 := hz
        first | exact hz | omega
    refine SB.mul mo fun t' k => ⟨.str (Txt.mul z n), w.H, I.tok _, ⟨_, rfl⟩, ?_⟩
    have := Rep.str (K := X.K) (w := w) (Txt.mul z n) hl
    rw [tl_mul] at this
    exact g.same ok this
  · rename_i xs n
    obtain ⟨⟨h1, h2, h3, h4⟩, rfl⟩ := e
    obtain ⟨a1, us, rfl, q1, r1⟩ := id ra.tup_inv
    cases rb.int_inv
    have hne : us ≠ [] := fun z => by
      subst z
      cases r1
      simp at h4
    by_cases k1 : n = 1
    · subst k1
      have e1 : (List.replicate (1 : Int).toNat xs).flatten = xs := by simp
      rw [e1] at g
      exact op_repT1 pins s σ w.H _ _ v u Q I rx ry ⟨a1, us, rfl, rfl, q1.sq, g.same ok ra.tup_rep⟩
    · by_cases k0 : n ≤ 0
      · have e1 : (List.replicate n.toNat xs).flatten = [] := by rw [show n.toNat = 0 by omega]; rfl
        rw [e1] at g
        exact op_repT0 pins s σ w.H _ _ v u Q I rx ry ⟨a1, n, us, rfl, rfl, q1.sq, hne, h2, k0, fun p hp => g.tup ok .nil hp⟩
      · exact op_repT pins s σ w.H _ _ v u Q I rx ry ⟨a1, n, us, rfl, rfl, q1.sq, hne, by omega, h1, by rw [← r1.length]; exact h3, fun p hp => g.tup ok (r1.rep _) hp⟩
  · rename_i xs n
    obtain ⟨⟨h1, h2, h3⟩, rfl⟩ := e
    obtain ⟨a1, us, rfl, q1, r1⟩ := ra.lst_inv
    cases rb.int_inv
    exact op_rep pins s σ w.H _ _ v u Q I rx ry ⟨a1, n, us, rfl, rfl, q1, by omega, by omega, by rw [← r1.length]; exact h3, fun p hp => g.lst ok (r1.rep _) hp⟩
theorem o_bin (op : Operator) : OpR X (binaryOp op) (RV2 X.K (binV op)) := by
  cases op with
  | Add => exact o_add
  | Sub => exact o_sub
  | Mult => exact o_mul
  | FloorDiv => exact o_fdiv
  | Mod => exact o_mod
  | _ =>
    intro pins s σ H x y v u Q I rx ry h
    obtain ⟨w, st, a, b, r, _, _, _, _, e, _⟩ := h
    simp [binV] at e

/-! comparisons -/
theorem o_eq (hu : X.A.units + 64 < cLine) : OpR X (compareOp .Eq) (RB2 X.K eqV) := by
  intro pins s σ H x y v u Q I rx ry h
  obtain ⟨w, a, b, k, rfl, ra, rb, e, g⟩ := h
  have gen : (if a.okD && b.okD then some (PyData.eqv a.toD b.toD) else none) = some k → wpAny (model X.prog X.w) X.A (compareOp .Eq v u) (EP X pins σ Q) X.xe s := fun e => by
    simp only [Option.ite_none_right_eq_some, Option.some.injEq, Bool.and_eq_true] at e
    obtain ⟨⟨h1, h2⟩, rfl⟩ := e
    unfold PV.okD at h1 h2
    simp only [Bool.and_eq_true] at h1 h2
    exact op_eqD hu pins s σ w.H _ _ v u Q I rx ry ⟨a.toD, b.toD, ra.dp h1.1, rb.dp h2.1, h1.2, h2.2, g⟩
  unfold eqV at e
  split at e
  · simp only [Option.some.injEq] at e
    subst e
    cases ra.int_inv; cases rb.int_inv
    refine op_eq pins s σ w.H _ _ v u Q I rx ry ⟨rfl, ?_⟩
    simpa using g
  · simp only [Option.some.injEq] at e
    subst e
    obtain ⟨z, rfl, rfl, hz1⟩ := ra.str_inv
    obtain ⟨z', rfl, rfl, hz2⟩ := rb.str_inv
    refine op_eq pins s σ w.H _ _ v u Q I rx ry ⟨rfl, ?_⟩
    have : decide (z.cps.toList = z'.cps.toList) = decide (V.str z = V.str z') := by
      refine decide_eq_decide.mpr ⟨fun h => ?_, fun h => by cases h; rfl⟩
      rw [← str_eq z, h, str_eq z']
    rw [← this]
    exact g
  · exact gen e
theorem o_ne (hu : X.A.units + 64 < cLine) : OpR X (compareOp .NotEq) (RB2 X.K fun a b => (eqV a b).map (!·)) := by
  intro pins s σ H x y v u Q I rx ry h
  obtain ⟨w, a, b, k', rfl, ra, rb, e, g⟩ := h
  simp only [Option.map_eq_some_iff] at e
  obtain ⟨k, e, rfl⟩ := e
  have gen : (if a.okD && b.okD then some (PyData.eqv a.toD b.toD) else none) = some k → wpAny (model X.prog X.w) X.A (compareOp .NotEq v u) (EP X pins σ Q) X.xe s := fun e => by
    simp only [Option.ite_none_right_eq_some, Option.some.injEq, Bool.and_eq_true] at e
    obtain ⟨⟨h1, h2⟩, rfl⟩ := e
    unfold PV.okD at h1 h2
    simp only [Bool.and_eq_true] at h1 h2
    exact op_neD hu pins s σ w.H _ _ v u Q I rx ry ⟨a.toD, b.toD, ra.dp h1.1, rb.dp h2.1, h1.2, h2.2, g⟩
  unfold eqV at e
  split at e
  · simp only [Option.some.injEq] at e
    subst e
    cases ra.int_inv; cases rb.int_inv
    refine op_ne pins s σ w.H _ _ v u Q I rx ry ⟨rfl, ?_⟩
    simpa using g
  · simp only [Option.some.injEq] at e
    subst e
    obtain ⟨z, rfl, rfl, hz1⟩ := ra.str_inv
    obtain ⟨z', rfl, rfl, hz2⟩ := rb.str_inv
    refine op_ne pins s σ w.H _ _ v u Q I rx ry ⟨rfl, ?_⟩
    have : decide (z.cps.toList = z'.cps.toList) = decide (V.str z = V.str z') := by
      refine decide_eq_decide.mpr ⟨fun h => ?_, fun h => by cases h; rfl⟩
      rw [← str_eq z, h, str_eq z']
    rw [← this]
    exact g
  · exact gen e
theorem o_lt (hu : X.A.units + 64 < cLine) : OpR X (compareOp .Lt) (RB2 X.K ltS) := by
  intro pins s σ H x y v u Q I rx ry h
  obtain ⟨w, a, b, k, rfl, ra, rb, e, g⟩ := h
  cases a <;> cases b <;> simp only [ltS, ltV, reduceCtorEq, Option.some.injEq, Option.ite_none_right_eq_some, Bool.and_eq_true, decide_eq_true_eq] at e
  · subst e
    cases ra.int_inv; cases rb.int_inv
    exact op_lt pins s σ w.H _ _ v u Q I rx ry ⟨_, _, rfl, rfl, g⟩
  · obtain ⟨⟨⟨⟨h1, h2⟩, h3⟩, h4⟩, rfl⟩ := e
    obtain ⟨as, r1⟩ := Dp.reads I _ x v (ra.dp (by simpa [PV.isData] using h1)) rx
    obtain ⟨bs, r2⟩ := Dp.reads I _ y u (rb.dp (by simpa [PV.isData] using h2)) ry
    exact PySem.W.rcLt_alike _ _ X.A s v u as bs r1 r2 h3 (by simp [PV.toD]) (by omega) _ _ _ _ ⟨.bl _, w.H, I, rfl, g⟩
theorem o_le : OpR X (compareOp .LtE) (RB2 X.K leS) := by
  intro pins s σ H x y v u Q I rx ry h
  obtain ⟨w, a, b, k, rfl, ra, rb, e, g⟩ := h
  cases a <;> cases b <;> simp only [leS, leV, reduceCtorEq, Option.some.injEq] at e
  · subst e
    cases ra.int_inv; cases rb.int_inv
    exact op_le pins s σ w.H _ _ v u Q I rx ry ⟨_, _, rfl, rfl, g⟩
  · subst e
    obtain ⟨z, rfl, rfl, hz1⟩ := ra.str_inv
    obtain ⟨z', rfl, rfl, hz2⟩ := rb.str_inv
    exact op_le_str pins s σ w.H _ _ v u Q I rx ry ⟨_, _, rfl, rfl, g⟩
theorem o_gt : OpR X (compareOp .Gt) (RB2 X.K fun a b => ltV b a) := by
  intro pins s σ H x y v u Q I rx ry h
  obtain ⟨w, a, b, k, rfl, ra, rb, e, g⟩ := h
  cases a <;> cases b <;> simp only [ltV, reduceCtorEq, Option.some.injEq] at e
  subst e
  cases ra.int_inv; cases rb.int_inv
  exact op_gt pins s σ w.H _ _ v u Q I rx ry ⟨_, _, rfl, rfl, g⟩
theorem o_ge : OpR X (compareOp .GtE) (RB2 X.K fun a b => leV b a) := by
  intro pins s σ H x y v u Q I rx ry h
  obtain ⟨w, a, b, k, rfl, ra, rb, e, g⟩ := h
  cases a <;> cases b <;> simp only [leV, reduceCtorEq, Option.some.injEq] at e
  subst e
  cases ra.int_inv; cases rb.int_inv
  exact op_ge pins s σ w.H _ _ v u Q I rx ry ⟨_, _, rfl, rfl, g⟩
theorem RepW.not_non {K : PySem.W.Frag} {w : Wd} {a : PV} {u : V} (h : RepW K w a u) (hn : a ≠ .non) (hr : ∀ l, a ≠ .ref l) : u ≠ .non := by
  rcases h with h | ⟨_, _, _, _, rfl, _⟩
  case inr => exact fun z => by cases z
  cases h with
  | non => exact absurd rfl hn
  | ref _ => exact absurd rfl (hr _)
  | gone _ => exact absurd rfl (hr _)
  | _ => exact fun z => by cases z
theorem o_is : OpR X (compareOp .Is) (RB2 X.K isV) := by
  intro pins s σ H x y v u Q I rx ry h
  obtain ⟨w, a, b, k, rfl, ra, rb, e, g⟩ := h
  unfold isV at e
  split at e
  · cases e
    cases ra.non_inv; cases rb.non_inv
    exact op_isN pins s σ w.H _ _ v u Q I rx ry ⟨rfl, by simpa using g⟩
  · cases e
  · cases e
    cases rb.non_inv
    have hn : x ≠ .non := ra.not_non (fun z => by simp_all) (fun l z => by simp_all)
    exact op_isN pins s σ w.H _ _ v u Q I rx ry ⟨rfl, by rw [decide_eq_false hn]; exact g⟩
  · cases e
    cases ra.bl_inv; cases rb.bl_inv
    exact op_isBl pins s σ w.H _ _ v u Q I rx ry ⟨_, _, rfl, rfl, g⟩
  · cases e
theorem o_isnot : OpR X (compareOp .IsNot) (RB2 X.K fun a b => (isV a b).map (!·)) := by
  intro pins s σ H x y v u Q I rx ry h
  obtain ⟨w, a, b, k', rfl, ra, rb, e, g⟩ := h
  simp only [Option.map_eq_some_iff] at e
  obtain ⟨k, e, rfl⟩ := e
  unfold isV at e
  split at e
  · cases e
    cases ra.non_inv; cases rb.non_inv
    exact op_notN pins s σ w.H _ _ v u Q I rx ry ⟨rfl, by simpa using g⟩
  · cases e
  · cases e
    cases rb.non_inv
    have hn : x ≠ .non := ra.not_non (fun z => by simp_all) (fun l z => by simp_all)
    exact op_notN pins s σ w.H _ _ v u Q I rx ry ⟨rfl, by rw [decide_eq_false hn]; exact g⟩
  · cases e
    cases ra.bl_inv; cases rb.bl_inv
    exact op_notBl pins s σ w.H _ _ v u Q I rx ry ⟨_, _, rfl, rfl, g⟩
  · cases e
theorem sign_of {z : Str} {c : Nat} (h : z.cps.toList = [c]) : z = ⟨#[c]⟩ := by
  rw [← str_eq z, h]
theorem str_dec (z z' : Str) : decide (V.str z = V.str z') = decide (z.cps.toList = z'.cps.toList) := by
  refine decide_eq_decide.mpr ⟨fun h => by cases h; rfl, fun h => ?_⟩
  rw [← str_eq z, h, str_eq z']
theorem strsV_in {K : PySem.W.Frag} {w : Wd} (z : Str) : ∀ {xs : List PV} {us : List V} {ts : List (List Nat)}, Reps K w xs us → strsV xs = some ts → us.all flatV = true ∧ L2.inV (.str z) us = decide (z.cps.toList ∈ ts)
  | _, _, _, .nil, e => by simp [strsV] at e; subst e; exact ⟨rfl, by simp [L2.inV]⟩
  | _, _, _, .cons (x := x) h r, e => by
    cases x with
    | str s =>
      simp only [strsV, Option.map_eq_some_iff] at e
      obtain ⟨ts, e, rfl⟩ := e
      obtain ⟨z', rfl, rfl, _⟩ := h.str_inv
      obtain ⟨h1, h2⟩ := strsV_in z r e
      refine ⟨by rw [List.all_cons, h1]; rfl, ?_⟩
      unfold L2.inV at h2 ⊢
      rw [List.any_cons, h2]
      have e0 : L2.eqV (V.str z') (V.str z) = decide (z.cps.toList = z'.cps.toList) := by
        show (z' == z) = _
        rw [← str_dec]
        by_cases q : z' = z
        · subst q; simp
        · have : (z' == z) = false := beq_eq_false_iff_ne.mpr q
          rw [this]
          exact (decide_eq_false fun y => q (by cases y; rfl)).symm
      rw [e0]
      simp only [List.mem_cons, Bool.decide_or]
    | _ => simp [strsV] at e
theorem intsW_in {K : PySem.W.Frag} {w : Wd} (i : Int) : ∀ {xs : List PV} {us : List V} {ns : List Int}, Reps K w xs us → intsW xs = some ns → us.all flatV = true ∧ L2.inV (.int i) us = decide (i ∈ ns)
  | _, _, _, .nil, e => by simp [intsW] at e; subst e; exact ⟨rfl, by simp [L2.inV]⟩
  | _, _, _, .cons (x := x) h r, e => by
    cases x with
    | int j =>
      simp only [intsW, Option.map_eq_some_iff] at e
      obtain ⟨ts, e, rfl⟩ := e
      cases h.int_inv
      obtain ⟨h1, h2⟩ := intsW_in i r e
      refine ⟨by rw [List.all_cons, h1]; rfl, ?_⟩
      unfold L2.inV at h2 ⊢
      rw [List.any_cons, h2]
      have e0 : L2.eqV (V.int j) (V.int i) = decide (i = j) := by
        show (j == i) = _
        by_cases q : j = i
        · subst q; simp
        · have : (j == i) = false := beq_eq_false_iff_ne.mpr q
          rw [this]
          exact (decide_eq_false fun y => q y.symm).symm
      rw [e0]
      simp only [List.mem_cons, Bool.decide_or]
    | _ => simp [intsW] at e
theorem inSeq_ok {K : PySem.W.Frag} {w : Wd} {a : PV} {x : V} {xs : List PV} {us : List V} {k : Bool} (ra : RepW K w a x) (r : Reps K w xs us) (e : inSeq a xs = some k) : flatV x = true ∧ us.all flatV = true ∧ L2.inV x us = k := by
  unfold inSeq at e
  split at e
  · rw [Option.map_eq_some_iff] at e
    obtain ⟨ts, e, rfl⟩ := e
    obtain ⟨z, rfl, rfl, _⟩ := ra.str_inv
    obtain ⟨h1, h2⟩ := strsV_in z r e
    exact ⟨rfl, h1, h2⟩
  · rw [Option.map_eq_some_iff] at e
    obtain ⟨ts, e, rfl⟩ := e
    cases ra.int_inv
    obtain ⟨h1, h2⟩ := intsW_in _ r e
    exact ⟨rfl, h1, h2⟩
  · cases e
theorem inAny_or {a c : PV} {xs : List PV} {k : Bool} (e : inAny a c xs = some k) : inSeq a xs = some k ∨ inDeep a c xs = some k := by
  unfold inAny at e
  split at e
  · exact .inl e
  · split at e
    · rename_i q
      cases e
      exact .inl q
    · exact .inr e
  · exact .inr e
theorem inDeep_ok {K : PySem.W.Frag} {w : Wd} {a b : PV} {x y : V} {xs : List PV} {k : Bool} (ra : RepW K w a x) (rb : RepW K w b y) (e : inDeep a b xs = some k) : Dp K w.H x a.toD ∧ Dp K w.H y b.toD ∧ SeqAt.shaped a.toD = true ∧ SeqAt.shaped b.toD = true ∧ k = (PV.toDs xs).any fun z => PyData.eqv z a.toD := by
  unfold inDeep at e
  split at e
  · rename_i hq
    cases e
    rw [Bool.and_eq_true] at hq
    unfold PV.okD at hq
    rw [Bool.and_eq_true, Bool.and_eq_true] at hq
    exact ⟨ra.dp hq.1.1, rb.dp hq.2.1, hq.1.2, hq.2.2, rfl⟩
  · cases e
theorem o_in (hu : X.A.units + 65 < cLine) : OpR X (compareOp .In) (RB2 X.K inV) := by
  intro pins s σ H x y v u Q I rx ry h
  obtain ⟨w, a, b, k, rfl, ra, rb, e, g⟩ := h
  unfold inV at e
  split at e
  · cases e
    obtain ⟨z, rfl, hz, _⟩ := ra.str_inv
    obtain ⟨z', rfl, rfl, _⟩ := rb.str_inv
    exact op_in_sign pins s σ w.H _ _ v u Q I rx ry ⟨_, _, by rw [sign_of hz], rfl, g⟩
  · rename_i xs
    rcases inAny_or e with hq | hq
    · obtain ⟨p, us, rfl, h1, r1⟩ := rb.tup_inv
      obtain ⟨f1, f2, f3⟩ := inSeq_ok ra r1 hq
      exact op_in_seq pins s σ w.H _ _ v u Q I rx ry ⟨p, us, rfl, .inr h1.sq, f1, f2, by simp only [Bool.false_eq_true, if_false]; rw [f3]; exact g⟩
    · obtain ⟨h1, h2, h3, h4, rfl⟩ := inDeep_ok ra rb hq
      rw [show (PV.tup xs).toD = .tuple (PV.toDs xs) by unfold PV.toD; rfl] at h2 h4
      obtain ⟨as, r1⟩ := Dp.reads I _ x v h1 rx
      obtain ⟨bs, r2⟩ := Dp.reads I _ y u h2 ry
      exact SeqAt.in_tuple_reads r2 r1 (SeqAt.canLay_of_shaped h4) (SeqAt.canLay_of_shaped h3) (PyProof.Rows.room_in_shaped h3 hu) ⟨.bl _, _, I, rfl, g⟩
  · rename_i xs
    rcases inAny_or e with hq | hq
    · obtain ⟨p, us, rfl, h1, r1⟩ := rb.lst_inv
      obtain ⟨f1, f2, f3⟩ := inSeq_ok ra r1 hq
      exact op_in_seq pins s σ w.H _ _ v u Q I rx ry ⟨p, us, rfl, .inl (SqL.of h1), f1, f2, by simp only [Bool.false_eq_true, if_false]; rw [f3]; exact g⟩
    · obtain ⟨h1, h2, h3, h4, rfl⟩ := inDeep_ok ra rb hq
      rw [show (PV.lst xs).toD = .list (PV.toDs xs) by unfold PV.toD; rfl] at h2 h4
      exact op_inD hu pins s σ w.H _ _ v u Q I rx ry ⟨_, _, h1, h2, h3, h4, g⟩
  · cases e
theorem o_notin (hu : X.A.units + 65 < cLine) : OpR X (compareOp .NotIn) (RB2 X.K fun a b => (inV a b).map (!·)) := by
  intro pins s σ H x y v u Q I rx ry h
  obtain ⟨w, a, b, k', rfl, ra, rb, e, g⟩ := h
  simp only [Option.map_eq_some_iff] at e
  obtain ⟨k, e, rfl⟩ := e
  unfold inV at e
  split at e
  · cases e
    obtain ⟨z, rfl, hz, _⟩ := ra.str_inv
    obtain ⟨z', rfl, rfl, _⟩ := rb.str_inv
    exact op_notIn_sign pins s σ w.H _ _ v u Q I rx ry ⟨_, _, by rw [sign_of hz], rfl, g⟩
  · rename_i xs
    rcases inAny_or e with hq | hq
    · obtain ⟨p, us, rfl, h1, r1⟩ := rb.tup_inv
      obtain ⟨f1, f2, f3⟩ := inSeq_ok ra r1 hq
      exact op_notIn_seq pins s σ w.H _ _ v u Q I rx ry ⟨p, us, rfl, .inr h1.sq, f1, f2, by simp only [if_true]; rw [f3]; exact g⟩
    · obtain ⟨h1, h2, h3, h4, rfl⟩ := inDeep_ok ra rb hq
      rw [show (PV.tup xs).toD = .tuple (PV.toDs xs) by unfold PV.toD; rfl] at h2 h4
      obtain ⟨as, r1⟩ := Dp.reads I _ x v h1 rx
      obtain ⟨bs, r2⟩ := Dp.reads I _ y u h2 ry
      exact SeqAt.notIn_tuple_reads r2 r1 (SeqAt.canLay_of_shaped h4) (SeqAt.canLay_of_shaped h3) (PyProof.Rows.room_in_shaped h3 hu) ⟨.bl _, _, I, rfl, g⟩
  · rename_i xs
    rcases inAny_or e with hq | hq
    · obtain ⟨p, us, rfl, h1, r1⟩ := rb.lst_inv
      obtain ⟨f1, f2, f3⟩ := inSeq_ok ra r1 hq
      exact op_notIn_seq pins s σ w.H _ _ v u Q I rx ry ⟨p, us, rfl, .inl (SqL.of h1), f1, f2, by simp only [if_true]; rw [f3]; exact g⟩
    · obtain ⟨h1, h2, h3, h4, rfl⟩ := inDeep_ok ra rb hq
      rw [show (PV.lst xs).toD = .list (PV.toDs xs) by unfold PV.toD; rfl] at h2 h4
      exact op_notInD hu pins s σ w.H _ _ v u Q I rx ry ⟨_, _, h1, h2, h3, h4, g⟩
  · cases e
theorem o_cmp (hu : X.A.units + 65 < cLine) (op : CmpOp) : OpR X (compareOp op) (RB2 X.K (cmpV op)) := by
  cases op with
  | Eq => exact o_eq (by omega)
  | NotEq => exact o_ne (by omega)
  | Lt => exact o_lt (by omega)
  | LtE => exact o_le
  | Gt => exact o_gt
  | GtE => exact o_ge
  | Is => exact o_is
  | IsNot => exact o_isnot
  | In => exact o_in hu
  | NotIn => exact o_notin hu

/-! truth -/
theorem truV_ok {K : PySem.W.Frag} {w : Wd} {a : PV} {x : V} {k : Bool} (r : RepW K w a x) (e : truV a = some k) : TruV K x w.H k := by
  rcases r with r | ⟨_, _, _, rfl, rfl, h, r⟩
  case inr =>
    simp only [truV, Option.some.injEq] at e
    subst e
    refine .inl ⟨_, SqL.of h, ?_⟩
    cases r <;> rfl
  cases r with
  | non => simp only [truV, Option.some.injEq] at e; subst e; rfl
  | bl b => simp only [truV, Option.some.injEq] at e; subst e; rfl
  | int i => simp only [truV, Option.some.injEq] at e; subst e; rfl
  | str z hz =>
    simp only [truV, Option.some.injEq] at e
    subst e
    refine ⟨hz, ?_⟩
    rw [len_eq]
    cases z.cps.toList <;> simp
    omega
  | tup h r =>
    simp only [truV, Option.some.injEq] at e
    subst e
    refine .inr (.inl ⟨_, h.sq, ?_⟩)
    cases r <;> rfl
  | lst h n r =>
    simp only [truV, Option.some.injEq] at e
    subst e
    refine .inl ⟨_, SqL.of h, ?_⟩
    cases r <;> rfl
  | scr _ => simp [truV] at e
  | ref _ => simp [truV] at e
  | gone _ => simp [truV] at e

/-! subscripts -/
theorem Reps.atI {K : PySem.W.Frag} {w : Wd} {xs : List PV} {us : List V} {i : Int} {v : PV} (r : Reps K w xs us) (e : L2.atI xs i = some v) : ∃ u, L2.atI us i = some u ∧ Rep K w v u := by
  unfold L2.atI at e ⊢
  rw [r.length] at e
  cases q : ixN us.length i with
  | none => rw [q] at e; simp at e
  | some j =>
    rw [q] at e
    simp only [Option.bind_some] at e ⊢
    exact r.get e
theorem o_at : IxR X (RV2 X.K atV) := by
  intro va sl pins s σ H x y v u Q I rx ry h hs
  obtain ⟨w, st, a, b, r, rfl, ok, ra, rb, e, g⟩ := h
  cases a <;> cases b <;> simp only [atV, reduceCtorEq, Option.map_eq_some_iff] at e
  · obtain ⟨c, e, rfl⟩ := e
    obtain ⟨z, rfl, rfl, hz⟩ := ra.str_inv
    cases rb.int_inv
    exact ix_str va sl pins s σ w.H _ _ v u Q I rx ry ⟨z, _, c, rfl, rfl, hz, e, g.same ok (Rep.ofStr (by show 1 ≤ sizeLine; decide))⟩ hs
  · obtain ⟨a1, us, rfl, h1, r1⟩ := ra.tup_inv
    cases rb.int_inv
    obtain ⟨q, h2, h3⟩ := r1.atI e
    exact ix_tup va sl pins s σ w.H _ _ v u Q I rx ry ⟨a1, us, _, q, rfl, rfl, h1.sq, h2, g.same ok h3⟩ hs
  · obtain ⟨a1, us, rfl, h1, r1⟩ := ra.lst_inv
    cases rb.int_inv
    obtain ⟨q, h2, h3⟩ := r1.atI e
    exact ix_list va sl pins s σ w.H _ _ v u Q I rx ry ⟨a1, us, _, q, rfl, rfl, SqL.of h1, h2, g.same ok h3⟩ hs
  · obtain ⟨c, e, rfl⟩ := e
    obtain ⟨a1, rfl, h1⟩ := ra.scr_inv
    cases rb.int_inv
    refine ix_list va sl pins s σ w.H _ _ v u Q I rx ry ⟨a1, _, _, .int c, rfl, rfl, h1.sq, ?_, g.same ok (.int c)⟩ hs
    unfold L2.atI at e ⊢
    rw [List.length_map]
    cases q : ixN _ _ with
    | none => rw [q] at e; simp at e
    | some j =>
      rw [q] at e
      simp only [Option.bind_some, List.getElem?_map] at e ⊢
      rw [e]; rfl

/-! slices -/
noncomputable def RSl (K : PySem.W.Frag) : V → Option Int → Option Int → Hp → VK → Prop := fun x lo hi H Q => ∃ (w : Wd) (st : Sto) (a v : PV), w.H = H ∧ StOk K w st ∧ RepW K w a x ∧ slV a lo hi = some v ∧ Gets K w v st Q
theorem cutL_all {α : Type} (xs : List α) (lo hi : Option Int) (h : HT.sIx xs.length 0 lo = 0 ∧ HT.sIx xs.length xs.length hi = xs.length) : cutL xs lo hi = xs := by
  unfold cutL
  rw [h.1, h.2]
  simp
theorem o_sl : SlR X (RSl X.K) := by
  intro pins s σ H x v vl vu lo hi sl Q I rx hs pl pu h
  obtain ⟨w, st, a, r, rfl, ok, ra, e, g⟩ := h
  cases a <;> simp only [slV, reduceCtorEq, Option.some.injEq] at e
  · subst e
    obtain ⟨z, rfl, rfl, hz⟩ := ra.str_inv
    refine sl_str pins s σ w.H _ v vl vu lo hi sl Q I rx hs pl pu ⟨z, rfl, hz, ?_⟩
    have e1 : (cutS z lo hi).cps.toList = cutL z.cps.toList lo hi := by
      unfold cutS cutL
      rw [len_eq]
    have := Rep.str (K := X.K) (w := w) (cutS z lo hi) (by
      rw [len_eq, e1]
      unfold cutL
      rw [List.length_take, List.length_drop]
      rw [len_eq] at hz
      omega)
    rw [e1] at this
    exact g.same ok this
  · subst e
    obtain ⟨a1, us, rfl, h1, r1⟩ := ra.tup_inv
    refine sl_tupA pins s σ w.H _ v vl vu lo hi sl Q I rx hs pl pu ⟨a1, us, rfl, h1.sq, fun z => ?_, fun _ p hp => g.tup ok (r1.cut lo hi) hp⟩
    rw [← r1.length] at z
    rw [cutL_all _ _ _ z] at g
    exact g.same ok ra.tup_rep
  · subst e
    obtain ⟨a1, us, rfl, h1, r1⟩ := ra.lst_inv
    exact sl_list pins s σ w.H _ v vl vu lo hi sl Q I rx hs pl pu ⟨a1, us, rfl, SqL.of h1, fun p hp => g.lst ok (r1.cut lo hi) hp⟩
end
end PL

/-! PL4: readings by the evaluator; a rule for each form of an expression. -/
namespace PL
open PySem L2

/-- what is to be shown where the evaluator says r -/
noncomputable def RdR {α β : Type} (K : PySem.W.Frag) (cl : Nat → Value) (E : XK) (R : Wd → α → β → Prop) (w : Wd) (r : Res α) (Q : β → Hp → Prop) : Prop :=
  match r with
  | .ok a st => ∀ w' b, w.le w' → StOk K w' st → R w' a b → Q b w'.H
  | .exc c st => ∀ w', w.le w' → StOk K w' st → E (cl c) none w'.H
  | .stuck => False
section
variable {α β γ δ : Type} {K : PySem.W.Frag} {cl : Nat → Value} {E : XK} {R : Wd → α → β → Prop} {R' : Wd → γ → δ → Prop} {w : Wd}
theorem RdR.mono {r : Res α} {Q Q' : β → Hp → Prop} (h : RdR K cl E R w r Q) (f : ∀ b H, Q b H → Q' b H) : RdR K cl E R w r Q' := by
  cases r with
  | ok a st => exact fun w' b h1 h2 h3 => f b _ (h w' b h1 h2 h3)
  | exc c st => exact h
  | stuck => exact h
theorem RdR.bind {r : Res α} {f : α → Sto → Res γ} {Q : δ → Hp → Prop} (h : RdR K cl E R' w (r.bind f) Q) :
    RdR K cl E R w r (fun b H => ∃ (w' : Wd) (a : α) (st : Sto), w'.H = H ∧ w.le w' ∧ StOk K w' st ∧ R w' a b ∧ RdR K cl E R' w' (f a st) Q) := by
  cases r with
  | ok a st =>
    intro w' b h1 h2 h3
    refine ⟨w', a, st, rfl, h1, h2, h3, ?_⟩
    rw [Res.bind_ok] at h
    cases q : f a st with
    | ok c st2 => rw [q] at h; exact fun w2 d g1 g2 g3 => h w2 d (h1.trans g1) g2 g3
    | exc c st2 => rw [q] at h; exact fun w2 g1 g2 => h w2 (h1.trans g1) g2
    | stuck => rw [q] at h; exact h
  | exc c st => exact h
  | stuck => exact h
theorem RdR.ofO {o : Option α} {st : Sto} {Q : β → Hp → Prop} (h : RdR K cl E R w (.ofO o st) Q) : ∃ a, o = some a ∧ ∀ w' b, w.le w' → StOk K w' st → R w' a b → Q b w'.H := by
  cases o with
  | none => exact h.elim
  | some a => exact ⟨a, rfl, h⟩
end

noncomputable def rdE (K : PySem.W.Frag) (cl : Nat → Value) (W : WX) (cf : CF) (p : PX) : TE := fun σ H Q =>
  ∃ (w : Wd) (e : Env) (st : Sto), w.H = H ∧ EnvOk K w e σ ∧ StOk K w st ∧ RdR K cl (WE W σ) (Rep K) w (ev cf p e st) Q
noncomputable def rdA (K : PySem.W.Frag) (cl : Nat → Value) (W : WX) (cf : CF) (p : PXs) : TA := fun σ H Q =>
  ∃ (w : Wd) (e : Env) (st : Sto), w.H = H ∧ EnvOk K w e σ ∧ StOk K w st ∧ RdR K cl (WE W σ) (Reps K) w (evs cf p e st) Q
noncomputable def rdT (K : PySem.W.Frag) (cl : Nat → Value) (W : WX) (cf : CF) (p : PT) : TT := fun σ H Q =>
  ∃ (w : Wd) (e : Env) (st : Sto), w.H = H ∧ EnvOk K w e σ ∧ StOk K w st ∧ RdR K cl (WE W σ) (fun _ a b => a = b) w (evT cf p e st) Q
noncomputable def rdO (K : PySem.W.Frag) (cl : Nat → Value) (W : WX) (cf : CF) (p : PO) : TO := fun σ H Q =>
  ∃ (w : Wd) (e : Env) (st : Sto), w.H = H ∧ EnvOk K w e σ ∧ StOk K w st ∧ RdR K cl (WE W σ) (fun _ a b => a = b) w (evO cf p e st) Q
noncomputable def rdB (K : PySem.W.Frag) (cl : Nat → Value) (W : WX) (cf : CF) (op : BoolOp) (p : PXs) : TE := fun σ H Q =>
  ∃ (w : Wd) (e : Env) (st : Sto), w.H = H ∧ EnvOk K w e σ ∧ StOk K w st ∧ RdR K cl (WE W σ) (Rep K) w (evB cf op p e st) Q
noncomputable def rdBT (K : PySem.W.Frag) (cl : Nat → Value) (W : WX) (cf : CF) (op : BoolOp) (p : PTs) : TT := fun σ H Q =>
  ∃ (w : Wd) (e : Env) (st : Sto), w.H = H ∧ EnvOk K w e σ ∧ StOk K w st ∧ RdR K cl (WE W σ) (fun _ a b => a = b) w (evBT cf op p e st) Q

theorem PEimp {X : Cx} {e : Expr} {t t' : TE} (h : L2.PE X e t) (f : ∀ σ H Q, t' σ H Q → t σ H Q) : L2.PE X e t' := ⟨fun pins s σ H Q I q => h.run pins s σ H Q I (f σ H Q q)⟩
theorem PTimp {X : Cx} {e : Expr} {t t' : TT} (h : L2.PT X e t) (f : ∀ σ H Q, t' σ H Q → t σ H Q) : L2.PT X e t' := ⟨fun pins s σ H Q I q => h.run pins s σ H Q I (f σ H Q q)⟩
theorem PAimp {X : Cx} {e : List Expr} {t t' : TA} (h : L2.PA X e t) (f : ∀ σ H Q, t' σ H Q → t σ H Q) : L2.PA X e t' := ⟨fun pos pins s σ H Q I q => h.run pos pins s σ H Q I (f σ H Q q)⟩
theorem POimp {X : Cx} {e : Option Expr} {t t' : TO} (h : L2.PO X e t) (f : ∀ σ H Q, t' σ H Q → t σ H Q) : L2.PO X e t' := ⟨fun pins s σ H Q I q => h.run pins s σ H Q I (f σ H Q q)⟩
theorem PWimp {X : Cx} {e : Expr} {t t' : TT} (h : L2.PW X e t) (f : ∀ σ H Q, t' σ H Q → t σ H Q) : L2.PW X e t' := ⟨fun wh pins s σ H Q I q => h.run wh pins s σ H Q I (f σ H Q q)⟩

section
variable {X : Cx} {cl : Nat → Value} {W : WX} {cf : CF} {pos : Pos} {a b c : Expr} {pa pb pc : PX}

theorem x_var {i : Nat} {x : Str} (hN : X.N[i]? = some x) (hv : Vis X.env.scope x) (hd : (x == ("__debug__" : Str)) = false) (hcd : (x == ("__classdict__" : Str)) = false) : L2.PE X (.Name x pos) (rdE X.K cl W cf (.var i)) := by
  refine PEimp (pe_var hN hv hd hcd) fun σ H Q h => ?_
  obtain ⟨w, e, st, rfl, he, hs, h⟩ := h
  simp only [ev] at h
  split at h
  · rename_i v q
    obtain ⟨u, h1, h2⟩ := he i v q
    exact ⟨u, h1, h w u (.refl w) hs h2⟩
  · exact h.elim
theorem x_cst {v : PV} {u : V} {t : Expr} (h : L2.PE X t (tC u)) (r : ∀ w, Rep X.K w v u) : L2.PE X t (rdE X.K cl W cf (.cst v)) := by
  refine PEimp h fun σ H Q h => ?_
  obtain ⟨w, e, st, rfl, he, hs, h⟩ := h
  simp only [ev] at h
  exact h w u (.refl w) hs (r w)
theorem x_glb {v : PV} {u : V} {t : Expr} {x : Str} (h : L2.PE X t (tC u)) (r : ∀ w, Rep X.K w v u) : L2.PE X t (rdE X.K cl W cf (.glb x v)) := by
  refine PEimp h fun σ H Q h => ?_
  obtain ⟨w, e, st, rfl, he, hs, h⟩ := h
  simp only [ev] at h
  exact h w u (.refl w) hs (r w)
theorem x_nil : L2.PA X [] (rdA X.K cl W cf .nil) := by
  refine PAimp pa_nil fun σ H Q h => ?_
  obtain ⟨w, e, st, rfl, he, hs, h⟩ := h
  simp only [evs] at h
  exact h w [] (.refl w) hs .nil
theorem x_cons {es : List Expr} {pr : PXs} (ha : L2.PE X a (rdE X.K cl W cf pa)) (hr : L2.PA X es (rdA X.K cl W cf pr)) (hst : starEach (a :: es) X.env = (false, eval a X.env) :: starEach es X.env) :
    L2.PA X (a :: es) (rdA X.K cl W cf (.cons pa pr)) := by
  refine PAimp (pa_cons ha hr hst) fun σ H Q h => ?_
  obtain ⟨w, e, st, rfl, he, hs, h⟩ := h
  simp only [evs] at h
  refine ⟨w, e, st, rfl, he, hs, h.bind.mono fun x H1 hQ => ?_⟩
  obtain ⟨w1, v1, st1, e1, hw1, hs1, r1, h1⟩ := hQ
  subst e1
  refine ⟨w1, e, st1, rfl, he.mono hw1, hs1, h1.bind.mono fun xs H2 hQ => ?_⟩
  obtain ⟨w2, v2, st2, e2, hw2, hs2, r2, h2⟩ := hQ
  subst e2
  exact h2 w2 _ (.refl w2) hs2 (.cons (r1.mono hw2) r2)
theorem x_tup {es : List Expr} {ps : PXs} {k : Nat} (hr : L2.PA X es (rdA X.K cl W cf ps)) : L2.PE X (.Tuple es k pos) (rdE X.K cl W cf (.tup ps)) := by
  refine PEimp (pe_tup hr) fun σ H Q h => ?_
  obtain ⟨w, e, st, rfl, he, hs, h⟩ := h
  simp only [ev] at h
  refine ⟨w, e, st, rfl, he, hs, h.bind.mono fun xs H1 hQ => ?_⟩
  obtain ⟨w1, v1, st1, e1, hw1, hs1, r1, h1⟩ := hQ
  subst e1
  split at h1
  · rename_i hz
    exact ⟨by rw [← r1.length]; exact hz, fun p hp => Gets.tup (fun w' u a b c => h1 w' u a b c) hs1 r1 hp⟩
  · exact h1.elim
theorem x_lst {es : List Expr} {ps : PXs} (hr : L2.PA X es (rdA X.K cl W cf ps)) : L2.PE X (.List es pos) (rdE X.K cl W cf (.lst ps)) := by
  refine PEimp (pe_lst hr) fun σ H Q h => ?_
  obtain ⟨w, e, st, rfl, he, hs, h⟩ := h
  simp only [ev] at h
  refine ⟨w, e, st, rfl, he, hs, h.bind.mono fun xs H1 hQ => ?_⟩
  obtain ⟨w1, v1, st1, e1, hw1, hs1, r1, h1⟩ := hQ
  subst e1
  split at h1
  · rename_i hz
    exact ⟨by rw [← r1.length]; exact hz, fun p hp => Gets.lst (fun w' u a b c => h1 w' u a b c) hs1 r1 hp⟩
  · exact h1.elim
theorem x_bin {op : Operator} (ha : L2.PE X a (rdE X.K cl W cf pa)) (hb : L2.PE X b (rdE X.K cl W cf pb)) : L2.PE X (.BinOp a op b pos) (rdE X.K cl W cf (.bin op pa pb)) := by
  refine PEimp (pe_op (o_bin op) ha hb) fun σ H Q h => ?_
  obtain ⟨w, e, st, rfl, he, hs, h⟩ := h
  simp only [ev] at h
  refine ⟨w, e, st, rfl, he, hs, h.bind.mono fun x H1 hQ => ?_⟩
  obtain ⟨w1, v1, st1, e1, hw1, hs1, r1, h1⟩ := hQ
  subst e1
  refine ⟨w1, e, st1, rfl, he.mono hw1, hs1, h1.bind.mono fun y H2 hQ => ?_⟩
  obtain ⟨w2, v2, st2, e2, hw2, hs2, r2, h2⟩ := hQ
  subst e2
  obtain ⟨v, q, h2⟩ := h2.ofO
  exact ⟨w2, st2, _, _, v, rfl, hs2, (r1.mono hw2).deref hs2, r2.deref hs2, q, h2⟩
theorem x_cmp {op : CmpOp} (hu : X.A.units + 65 < cLine) (ha : L2.PE X a (rdE X.K cl W cf pa)) (hb : L2.PE X b (rdE X.K cl W cf pb)) (hm : behindInMarks op b = false) : L2.PE X (.Compare a [op] [b] pos) (rdE X.K cl W cf (.cmp op pa pb)) := by
  refine PEimp (pe_cmpR (o_cmp hu op) ha hb hm) fun σ H Q h => ?_
  obtain ⟨w, e, st, rfl, he, hs, h⟩ := h
  simp only [ev] at h
  refine ⟨w, e, st, rfl, he, hs, h.bind.mono fun x H1 hQ => ?_⟩
  obtain ⟨w1, v1, st1, e1, hw1, hs1, r1, h1⟩ := hQ
  subst e1
  refine ⟨w1, e, st1, rfl, he.mono hw1, hs1, h1.bind.mono fun y H2 hQ => ?_⟩
  obtain ⟨w2, v2, st2, e2, hw2, hs2, r2, h2⟩ := hQ
  subst e2
  obtain ⟨v, q, h2⟩ := h2.ofO
  rw [Option.map_eq_some_iff] at q
  obtain ⟨k, q, rfl⟩ := q
  exact ⟨w2, _, _, k, rfl, (r1.mono hw2).deref hs2, r2.deref hs2, q, h2 w2 _ (.refl w2) hs2 (.bl k)⟩
theorem x_tcmp {op : CmpOp} (hu : X.A.units + 65 < cLine) (ha : L2.PE X a (rdE X.K cl W cf pa)) (hb : L2.PE X b (rdE X.K cl W cf pb)) (hm : behindInMarks op b = false) : L2.PT X (.Compare a [op] [b] pos) (rdT X.K cl W cf (.cmp op pa pb)) := by
  refine PTimp (pt_cmpR (o_cmp hu op) ha hb hm) fun σ H Q h => ?_
  obtain ⟨w, e, st, rfl, he, hs, h⟩ := h
  simp only [evT] at h
  refine ⟨w, e, st, rfl, he, hs, h.bind.mono fun x H1 hQ => ?_⟩
  obtain ⟨w1, v1, st1, e1, hw1, hs1, r1, h1⟩ := hQ
  subst e1
  refine ⟨w1, e, st1, rfl, he.mono hw1, hs1, h1.bind.mono fun y H2 hQ => ?_⟩
  obtain ⟨w2, v2, st2, e2, hw2, hs2, r2, h2⟩ := hQ
  subst e2
  obtain ⟨k, q, h2⟩ := h2.ofO
  exact ⟨w2, _, _, k, rfl, (r1.mono hw2).deref hs2, r2.deref hs2, q, k, rfl, h2 w2 _ (.refl w2) hs2 rfl⟩
theorem x_cmp2 {op op' : CmpOp} (hu : X.A.units + 65 < cLine) (ha : L2.PE X a (rdE X.K cl W cf pa)) (hb : L2.PE X b (rdE X.K cl W cf pb)) (hc : L2.PE X c (rdE X.K cl W cf pc)) (hm : lastMarks [op, op'] [b, c] = false) :
    L2.PE X (.Compare a [op, op'] [b, c] pos) (rdE X.K cl W cf (.cmp2 op op' pa pb pc)) := by
  refine PEimp (pe_chain (o_cmp hu op) (o_cmp hu op') ha hb hc hm) fun σ H Q h => ?_
  obtain ⟨w, e, st, rfl, he, hs, h⟩ := h
  simp only [ev] at h
  refine ⟨w, e, st, rfl, he, hs, h.bind.mono fun x H1 hQ => ?_⟩
  obtain ⟨w1, v1, st1, e1, hw1, hs1, r1, h1⟩ := hQ
  subst e1
  refine ⟨w1, e, st1, rfl, he.mono hw1, hs1, h1.bind.mono fun y H2 hQ => ?_⟩
  obtain ⟨w2, v2, st2, e2, hw2, hs2, r2, h2⟩ := hQ
  subst e2
  obtain ⟨k, q, h2⟩ := (h2.bind (R := fun _ a b => a = b)).ofO
  obtain ⟨w3, k', st3, e3, hw3, hs3, rfl, h3⟩ := h2 w2 k (.refl w2) hs2 rfl
  refine ⟨w2, _, _, k', rfl, (r1.mono hw2).deref hs2, r2.deref hs2, q, k', rfl, ?_⟩
  rw [← e3]
  cases k' with
  | false => exact h3 w3 _ (.refl w3) hs3 (.bl false)
  | true =>
    simp only [ite_true] at h3 ⊢
    have hw := hw2.trans hw3
    refine ⟨w3, e, st3, rfl, he.mono (hw1.trans hw), hs3, h3.bind.mono fun z H4 hQ => ?_⟩
    obtain ⟨w4, v4, st4, e4, hw4, hs4, r4, h4⟩ := hQ
    subst e4
    obtain ⟨v, q, h4⟩ := h4.ofO
    rw [Option.map_eq_some_iff] at q
    obtain ⟨k, q, rfl⟩ := q
    exact ⟨w4, _, _, k, rfl, (r2.mono (hw3.trans hw4)).deref hs4, r4.deref hs4, q, h4 w4 _ (.refl w4) hs4 (.bl k)⟩
theorem x_tcmp2 {op op' : CmpOp} (hu : X.A.units + 65 < cLine) (ha : L2.PE X a (rdE X.K cl W cf pa)) (hb : L2.PE X b (rdE X.K cl W cf pb)) (hc : L2.PE X c (rdE X.K cl W cf pc)) (hm : lastMarks [op, op'] [b, c] = false) :
    L2.PT X (.Compare a [op, op'] [b, c] pos) (rdT X.K cl W cf (.cmp2 op op' pa pb pc)) := by
  refine PTimp (pt_chain (o_cmp hu op) (o_cmp hu op') ha hb hc hm) fun σ H Q h => ?_
  obtain ⟨w, e, st, rfl, he, hs, h⟩ := h
  simp only [evT] at h
  refine ⟨w, e, st, rfl, he, hs, h.bind.mono fun x H1 hQ => ?_⟩
  obtain ⟨w1, v1, st1, e1, hw1, hs1, r1, h1⟩ := hQ
  subst e1
  refine ⟨w1, e, st1, rfl, he.mono hw1, hs1, h1.bind.mono fun y H2 hQ => ?_⟩
  obtain ⟨w2, v2, st2, e2, hw2, hs2, r2, h2⟩ := hQ
  subst e2
  obtain ⟨k, q, h2⟩ := (h2.bind (R := fun _ a b => a = b)).ofO
  obtain ⟨w3, k', st3, e3, hw3, hs3, rfl, h3⟩ := h2 w2 k (.refl w2) hs2 rfl
  refine ⟨w2, _, _, k', rfl, (r1.mono hw2).deref hs2, r2.deref hs2, q, k', rfl, ?_⟩
  rw [← e3]
  cases k' with
  | false => exact ⟨false, rfl, h3 w3 _ (.refl w3) hs3 rfl⟩
  | true =>
    simp only [ite_true] at h3 ⊢
    have hw := hw2.trans hw3
    refine ⟨w3, e, st3, rfl, he.mono (hw1.trans hw), hs3, h3.bind.mono fun z H4 hQ => ?_⟩
    obtain ⟨w4, v4, st4, e4, hw4, hs4, r4, h4⟩ := hQ
    subst e4
    obtain ⟨k, q, h4⟩ := h4.ofO
    exact ⟨w4, _, _, k, rfl, (r2.mono (hw3.trans hw4)).deref hs4, r4.deref hs4, q, k, rfl, h4 w4 _ (.refl w4) hs4 rfl⟩
/-! and, or, not as values -/
theorem x_b1 {op : BoolOp} (ha : L2.PE X a (rdE X.K cl W cf pa)) : L2.PE X (.BoolOp op [a] pos) (rdB X.K cl W cf op (.cons pa .nil)) := by
  refine PEimp (pe_one ha) fun σ H Q h => ?_
  obtain ⟨w, e, st, rfl, he, hs, h⟩ := h
  simp only [evB] at h
  exact ⟨w, e, st, rfl, he, hs, h⟩
theorem x_b2 {op : BoolOp} {rest : List Expr} {pr : PXs} (ha : L2.PE X a (rdE X.K cl W cf pa)) (hr : L2.PE X (.BoolOp op (b :: rest) pos) (rdB X.K cl W cf op (.cons pb pr))) :
    L2.PE X (.BoolOp op (a :: b :: rest) pos) (rdB X.K cl W cf op (.cons pa (.cons pb pr))) := by
  cases op with
  | And =>
    refine PEimp (pe_and ha hr) fun σ H Q h => ?_
    obtain ⟨w, e, st, rfl, he, hs, h⟩ := h
    simp only [evB] at h
    refine ⟨w, e, st, rfl, he, hs, h.bind.mono fun x H1 hQ => ?_⟩
    obtain ⟨w1, v1, st1, e1, hw1, hs1, r1, h1⟩ := hQ
    subst e1
    cases v1 with
    | bl k =>
      cases r1.bl_inv
      refine ⟨k, rfl, ?_⟩
      cases k with
      | true => exact ⟨w1, e, st1, rfl, he.mono hw1, hs1, by simpa [evB] using h1⟩
      | false => exact h1 w1 _ (.refl w1) hs1 (.bl false)
    | _ => exact h1.elim
  | Or =>
    refine PEimp (pe_or ha hr) fun σ H Q h => ?_
    obtain ⟨w, e, st, rfl, he, hs, h⟩ := h
    simp only [evB] at h
    refine ⟨w, e, st, rfl, he, hs, h.bind.mono fun x H1 hQ => ?_⟩
    obtain ⟨w1, v1, st1, e1, hw1, hs1, r1, h1⟩ := hQ
    subst e1
    cases v1 with
    | bl k =>
      cases r1.bl_inv
      refine ⟨k, rfl, ?_⟩
      cases k with
      | false => exact ⟨w1, e, st1, rfl, he.mono hw1, hs1, by simpa [evB] using h1⟩
      | true => exact h1 w1 _ (.refl w1) hs1 (.bl true)
    | _ => exact h1.elim
theorem x_bop {op : BoolOp} {es : List Expr} {ps : PXs} (h : L2.PE X (.BoolOp op es pos) (rdB X.K cl W cf op ps)) : L2.PE X (.BoolOp op es pos) (rdE X.K cl W cf (.bop op ps)) := by
  refine PEimp h fun σ H Q h => ?_
  obtain ⟨w, e, st, rfl, he, hs, h⟩ := h
  simp only [ev] at h
  exact ⟨w, e, st, rfl, he, hs, h⟩
theorem x_nt (ha : L2.PE X a (rdE X.K cl W cf pa)) : L2.PE X (.UnaryOp .Not a pos) (rdE X.K cl W cf (.nt pa)) := by
  refine PEimp (pe_not ha) fun σ H Q h => ?_
  obtain ⟨w, e, st, rfl, he, hs, h⟩ := h
  simp only [ev] at h
  refine ⟨w, e, st, rfl, he, hs, h.bind.mono fun x H1 hQ => ?_⟩
  obtain ⟨w1, v1, st1, e1, hw1, hs1, r1, h1⟩ := hQ
  subst e1
  cases v1 with
  | bl k =>
    cases r1.bl_inv
    exact ⟨k, rfl, h1 w1 _ (.refl w1) hs1 (.bl _)⟩
  | _ => exact h1.elim
theorem x_neg (ha : L2.PE X a (rdE X.K cl W cf pa)) : L2.PE X (.UnaryOp .USub a pos) (rdE X.K cl W cf (.neg pa)) := by
  refine PEimp (pe_un un_neg ha) fun σ H Q h => ?_
  obtain ⟨w, e, st, rfl, he, hs, h⟩ := h
  simp only [ev] at h
  refine ⟨w, e, st, rfl, he, hs, h.bind.mono fun x H1 hQ => ?_⟩
  obtain ⟨w1, v1, st1, e1, hw1, hs1, r1, h1⟩ := hQ
  subst e1
  cases v1 with
  | int k =>
    cases r1.int_inv
    exact ⟨k, rfl, h1 w1 _ (.refl w1) hs1 (.int _)⟩
  | _ => exact h1.elim
/-! tests -/
theorem x_tval (he : ∀ whole, isTrue a X.env whole = (do let v ← whole; standAt a.pos; holding [v] (truthy v))) (ha : L2.PE X a (rdE X.K cl W cf pa)) : L2.PT X a (rdT X.K cl W cf (.val pa)) := by
  refine PTimp (pt_truth ha he) fun σ H Q h => ?_
  obtain ⟨w, e, st, rfl, he, hs, h⟩ := h
  simp only [evT] at h
  refine ⟨w, e, st, rfl, he, hs, h.bind.mono fun x H1 hQ => ?_⟩
  obtain ⟨w1, v1, st1, e1, hw1, hs1, r1, h1⟩ := hQ
  subst e1
  obtain ⟨k, q, h1⟩ := h1.ofO
  exact ⟨k, truV_ok (r1.deref hs1) q, h1 w1 _ (.refl w1) hs1 rfl⟩
theorem x_tnt {ta : PT} (ha : L2.PT X a (rdT X.K cl W cf ta)) : L2.PT X (.UnaryOp .Not a pos) (rdT X.K cl W cf (.nt ta)) := by
  refine PTimp (pt_not ha) fun σ H Q h => ?_
  obtain ⟨w, e, st, rfl, he, hs, h⟩ := h
  simp only [evT] at h
  refine ⟨w, e, st, rfl, he, hs, h.bind.mono fun x H1 hQ => ?_⟩
  obtain ⟨w1, v1, st1, e1, hw1, hs1, r1, h1⟩ := hQ
  subst e1
  subst r1
  exact h1 w1 _ (.refl w1) hs1 rfl
theorem x_tb1 {op : BoolOp} {ta : PT} (ha : L2.PT X a (rdT X.K cl W cf ta)) : L2.PW X (.BoolOp op [a] pos) (rdBT X.K cl W cf op (.cons ta .nil)) := by
  have g : ∀ σ H Q, rdBT X.K cl W cf op (.cons ta .nil) σ H Q → rdT X.K cl W cf ta σ H Q := fun σ H Q h => by
    obtain ⟨w, e, st, rfl, he, hs, h⟩ := h
    simp only [evBT] at h
    exact ⟨w, e, st, rfl, he, hs, h⟩
  cases op with
  | And => exact PWimp (pw_and1 ha) g
  | Or => exact PWimp (pw_or1 ha) g
theorem x_tb2 {op : BoolOp} {rest : List Expr} {ta tb : PT} {tr : PTs} (ha : L2.PT X a (rdT X.K cl W cf ta)) (hr : L2.PW X (.BoolOp op (b :: rest) pos) (rdBT X.K cl W cf op (.cons tb tr))) :
    L2.PW X (.BoolOp op (a :: b :: rest) pos) (rdBT X.K cl W cf op (.cons ta (.cons tb tr))) := by
  cases op with
  | And =>
    refine PWimp (pw_and ha hr) fun σ H Q h => ?_
    obtain ⟨w, e, st, rfl, he, hs, h⟩ := h
    simp only [evBT] at h
    refine ⟨w, e, st, rfl, he, hs, h.bind.mono fun x H1 hQ => ?_⟩
    obtain ⟨w1, v1, st1, e1, hw1, hs1, r1, h1⟩ := hQ
    subst e1
    subst r1
    cases v1 with
    | true => exact ⟨w1, e, st1, rfl, he.mono hw1, hs1, by simpa [evBT] using h1⟩
    | false => exact h1 w1 _ (.refl w1) hs1 rfl
  | Or =>
    refine PWimp (pw_or ha hr) fun σ H Q h => ?_
    obtain ⟨w, e, st, rfl, he, hs, h⟩ := h
    simp only [evBT] at h
    refine ⟨w, e, st, rfl, he, hs, h.bind.mono fun x H1 hQ => ?_⟩
    obtain ⟨w1, v1, st1, e1, hw1, hs1, r1, h1⟩ := hQ
    subst e1
    subst r1
    cases v1 with
    | false => exact ⟨w1, e, st1, rfl, he.mono hw1, hs1, by simpa [evBT] using h1⟩
    | true => exact h1 w1 _ (.refl w1) hs1 rfl
theorem x_tbop {op : BoolOp} {es : List Expr} {ts : PTs} (h : L2.PW X (.BoolOp op es pos) (rdBT X.K cl W cf op ts)) : L2.PT X (.BoolOp op es pos) (rdT X.K cl W cf (.bop op ts)) := by
  refine PTimp h.pt fun σ H Q h => ?_
  obtain ⟨w, e, st, rfl, he, hs, h⟩ := h
  simp only [evT] at h
  exact ⟨w, e, st, rfl, he, hs, h⟩
theorem x_ite {tc : PT} (hc : L2.PT X c (rdT X.K cl W cf tc)) (ha : L2.PE X a (rdE X.K cl W cf pa)) (hb : L2.PE X b (rdE X.K cl W cf pb)) : L2.PE X (.IfExp c a b pos) (rdE X.K cl W cf (.ite tc pa pb)) := by
  refine PEimp (pe_ifExp hc ha hb) fun σ H Q h => ?_
  obtain ⟨w, e, st, rfl, he, hs, h⟩ := h
  simp only [ev] at h
  refine ⟨w, e, st, rfl, he, hs, h.bind.mono fun x H1 hQ => ?_⟩
  obtain ⟨w1, v1, st1, e1, hw1, hs1, r1, h1⟩ := hQ
  subst e1
  subst r1
  cases v1 with
  | true => exact ⟨w1, e, st1, rfl, he.mono hw1, hs1, h1⟩
  | false => exact ⟨w1, e, st1, rfl, he.mono hw1, hs1, h1⟩
/-! subscripts, slices -/
theorem x_sub (ha : L2.PE X a (rdE X.K cl W cf pa)) (hb : L2.PE X b (rdE X.K cl W cf pb)) (hx : PlainIx b) : L2.PE X (.Subscript a b pos) (rdE X.K cl W cf (.sub pa pb)) := by
  refine PEimp (pe_ix o_at ha hb hx) fun σ H Q h => ?_
  obtain ⟨w, e, st, rfl, he, hs, h⟩ := h
  simp only [ev] at h
  refine ⟨w, e, st, rfl, he, hs, h.bind.mono fun x H1 hQ => ?_⟩
  obtain ⟨w1, v1, st1, e1, hw1, hs1, r1, h1⟩ := hQ
  subst e1
  refine ⟨w1, e, st1, rfl, he.mono hw1, hs1, h1.bind.mono fun y H2 hQ => ?_⟩
  obtain ⟨w2, v2, st2, e2, hw2, hs2, r2, h2⟩ := hQ
  subst e2
  obtain ⟨v, q, h2⟩ := h2.ofO
  exact ⟨w2, st2, _, _, v, rfl, hs2, (r1.mono hw2).deref hs2, r2.wk, q, h2⟩
theorem x_ono : L2.PO X none (rdO X.K cl W cf .no) := by
  refine POimp po_none fun σ H Q h => ?_
  obtain ⟨w, e, st, rfl, he, hs, h⟩ := h
  simp only [evO] at h
  exact h w none (.refl w) hs rfl
theorem x_osome (ha : L2.PE X a (rdE X.K cl W cf pa)) : L2.PO X (some a) (rdO X.K cl W cf (.some pa)) := by
  refine POimp (po_some ha) fun σ H Q h => ?_
  obtain ⟨w, e, st, rfl, he, hs, h⟩ := h
  simp only [evO] at h
  refine ⟨w, e, st, rfl, he, hs, h.bind.mono fun x H1 hQ => ?_⟩
  obtain ⟨w1, v1, st1, e1, hw1, hs1, r1, h1⟩ := hQ
  subst e1
  obtain ⟨o, q, h1⟩ := h1.ofO
  cases v1 with
  | int i =>
    cases r1.int_inv
    simp only [ivO, Option.some.injEq] at q
    subst q
    exact ⟨i, rfl, h1 w1 _ (.refl w1) hs1 rfl⟩
  | _ => simp [ivO] at q
theorem x_slc {lo hi : Option Expr} {pl ph : PO} {p2 : Pos} (ha : L2.PE X a (rdE X.K cl W cf pa)) (hl : L2.PO X lo (rdO X.K cl W cf pl)) (hh : L2.PO X hi (rdO X.K cl W cf ph)) :
    L2.PE X (.Subscript a (.Slice lo hi none p2) pos) (rdE X.K cl W cf (.slc pa pl ph)) := by
  refine PEimp (pe_slice o_sl ha hl hh) fun σ H Q h => ?_
  obtain ⟨w, e, st, rfl, he, hs, h⟩ := h
  simp only [ev] at h
  refine ⟨w, e, st, rfl, he, hs, h.bind.mono fun x H1 hQ => ?_⟩
  obtain ⟨w1, v1, st1, e1, hw1, hs1, r1, h1⟩ := hQ
  subst e1
  refine ⟨w1, e, st1, rfl, he.mono hw1, hs1, h1.bind.mono fun l H2 hQ => ?_⟩
  obtain ⟨w2, v2, st2, e2, hw2, hs2, r2, h2⟩ := hQ
  subst e2
  subst r2
  refine ⟨w2, e, st2, rfl, he.mono (hw1.trans hw2), hs2, h2.bind.mono fun u H3 hQ => ?_⟩
  obtain ⟨w3, v3, st3, e3, hw3, hs3, r3, h3⟩ := hQ
  subst e3
  subst r3
  obtain ⟨v, q, h3⟩ := h3.ofO
  exact ⟨w3, st3, _, v, rfl, hs3, (r1.mono (hw2.trans hw3)).deref hs3, q, h3⟩
/-! lists that may be written -/
theorem x_nlst {es : List Expr} {ps : PXs} (hr : L2.PA X es (rdA X.K cl W cf ps)) : L2.PE X (.List es pos) (rdE X.K cl W cf (.nlst ps)) := by
  refine PEimp (pe_lst hr) fun σ H Q h => ?_
  obtain ⟨w, e, st, rfl, he, hs, h⟩ := h
  simp only [ev] at h
  refine ⟨w, e, st, rfl, he, hs, h.bind.mono fun xs H1 hQ => ?_⟩
  obtain ⟨w1, v1, st1, e1, hw1, hs1, r1, h1⟩ := hQ
  subst e1
  split at h1
  · rename_i hz
    exact ⟨by rw [← r1.length]; exact hz, fun p hp => Gets.loc (fun w' u a b c => h1 w' u a b c) hs1 r1 hp⟩
  · exact h1.elim
theorem x_fz {a : Expr} (ha : L2.PE X a (rdE X.K cl W cf pa)) : L2.PE X a (rdE X.K cl W cf (.fz pa)) := by
  refine PEimp ha fun σ H Q h => ?_
  obtain ⟨w, e, st, rfl, he, hs, h⟩ := h
  simp only [ev] at h
  refine ⟨w, e, st, rfl, he, hs, h.bind.mono fun x H1 hQ => ?_⟩
  obtain ⟨w1, v1, st1, e1, hw1, hs1, r1, h1⟩ := hQ
  subst e1
  have same : fzV v1 st1 = .ok v1 st1 → Q x w1.H := fun z => by
    rw [z] at h1
    exact h1 w1 x (.refl w1) hs1 r1
  cases r1 with
  | ref q =>
    obtain ⟨c, hc, ok⟩ := hs1.cell _ _ q
    cases c with
    | dead => exact ok.elim
    | lst xs =>
      simp only [fzV, hc] at h1
      exact h1 (w1.frz _) _ Wd.frz_le (hs1.frz _) (hs1.frz_rep q hc)
    | obj C fs =>
      simp only [fzV, hc] at h1
      exact h1.elim
    | dct t kvs =>
      simp only [fzV, hc] at h1
      exact h1.elim
    | fdc kvs =>
      simp only [fzV, hc] at h1
      exact h1.elim
  | gone q =>
    simp only [fzV, hs1.gone _ q] at h1
    exact h1.elim
  | _ => exact same rfl
/-- what a list's method reads -/
noncomputable def rMth (K : PySem.W.Frag) (cl : Nat → Value) (E : XK) (m : Mth) : V → List V → Hp → VK → Prop := fun x vs H Q =>
  ∃ (w : Wd) (st : Sto) (l : Nat) (a : Addr) (args : List PV), w.H = H ∧ StOk K w st ∧ x = .ref a ∧ w.m[l]? = some (some a) ∧ Reps K w args vs ∧ RdR K cl E (Rep K) w (mthV m (.ref l) args st) Q
theorem StOk.lst_at {K : PySem.W.Frag} {w : Wd} {st : Sto} (h : StOk K w st) {l : Nat} {a : Addr} {xs : List PV} (e : w.m[l]? = some (some a)) (hc : st[l]? = some (.lst xs)) : ∃ us, w.H a = some (.lst us) ∧ Reps K w xs us := by
  obtain ⟨c, hc2, ok⟩ := h.cell l a e
  rw [hc] at hc2
  cases hc2
  exact ok
theorem RdR.wr {K : PySem.W.Frag} {cl : Nat → Value} {E : XK} {w : Wd} {st : Sto} {l : Nat} {a : Addr} {xs : List PV} {us : List V} {v : PV} {u : V} {Q : VK} (ok : StOk K w st) (e : w.m[l]? = some (some a)) {us0 : List V} (hl0 : w.H a = some (.lst us0)) (r : Reps K w xs us) (rv : Rep K w v u)
    (h : RdR K cl E (Rep K) w (.ok v (st.set l (.lst xs))) Q) : Q u (upd w.H a (.lst us)) :=
  h (w.lw a us) u (Wd.lw_le (m_mem e) hl0) (ok.lw e hl0 r) (rv.mono (Wd.lw_le (m_mem e) hl0))
theorem Reps.one_inv {K : PySem.W.Frag} {w : Wd} {x : PV} {us : List V} (h : Reps K w [x] us) : ∃ u, us = [u] ∧ Rep K w x u := by
  cases h with
  | cons h r => cases r; exact ⟨_, rfl, h⟩
theorem Reps.nil_inv {K : PySem.W.Frag} {w : Wd} {us : List V} (h : Reps K w [] us) : us = [] := by
  cases h; rfl
theorem Reps.dropLast {K : PySem.W.Frag} {w : Wd} : ∀ {xs : List PV} {us : List V}, Reps K w xs us → Reps K w xs.dropLast us.dropLast
  | _, _, .nil => .nil
  | _, _, .cons _ .nil => .nil
  | _, _, .cons h (.cons h' r) => .cons h (Reps.dropLast (.cons h' r))
theorem Reps.eraseIdx {K : PySem.W.Frag} {w : Wd} : ∀ {xs : List PV} {us : List V} (i : Nat), Reps K w xs us → Reps K w (xs.eraseIdx i) (us.eraseIdx i)
  | _, _, _, .nil => .nil
  | _, _, 0, .cons _ r => r
  | _, _, i + 1, .cons h r => .cons h (Reps.eraseIdx i r)
theorem mt_app {E : XK} : MtR X "list.append" (rMth X.K cl E .append) := by
  intro pins s σ H x vs v us Q I rx rv h
  obtain ⟨w, st, l, a, args, rfl, ok, rfl, e, r, h⟩ := h
  rcases args with _ | ⟨y, _ | ⟨_, _⟩⟩
  · exact h.elim
  · obtain ⟨u, rfl, ru⟩ := r.one_inv
    simp only [mthV] at h
    split at h
    · rename_i xs hc
      obtain ⟨ws, hw, rw'⟩ := ok.lst_at e hc
      split at h
      · rename_i hz
        exact mt_append pins s σ w.H _ _ v us Q I rx rv ⟨a, ws, u, rfl, rfl, hw, by rw [← rw'.length]; exact hz, RdR.wr ok e hw (rw'.append (.cons ru .nil)) .non h⟩
      · exact h.elim
    · exact h.elim
  · exact h.elim
theorem mt_ext {E : XK} : MtR X "list.extend" (rMth X.K cl E .extend) := by
  intro pins s σ H x vs v us Q I rx rv h
  obtain ⟨w, st, l, a, args, rfl, ok, rfl, e, r, h⟩ := h
  rcases args with _ | ⟨y, _ | ⟨_, _⟩⟩
  · exact h.elim
  · obtain ⟨u, rfl, ru⟩ := r.one_inv
    simp only [mthV] at h
    split at h
    · rename_i xs ys hc hy
      obtain ⟨ws, hw, rw'⟩ := ok.lst_at e hc
      have ry := ru.deref ok
      rw [hy] at ry
      obtain ⟨a2, us2, rfl, h2, r2⟩ := ry.lst_inv
      split at h
      · rename_i hz
        exact mt_extend pins s σ w.H _ _ v us Q I rx rv ⟨a, a2, ws, us2, rfl, rfl, hw, h2, by rw [← rw'.length, ← r2.length]; exact hz, RdR.wr ok e hw (rw'.append r2) .non h⟩
      · exact h.elim
    · exact h.elim
  · exact h.elim
theorem mt_popA {E : XK} : MtR X "list.pop" (rMth X.K cl E .pop) := by
  intro pins s σ H x vs v us Q I rx rv h
  obtain ⟨w, st, l, a, args, rfl, ok, rfl, e, r, h⟩ := h
  rcases args with _ | ⟨y, _ | ⟨_, _⟩⟩
  · cases r.nil_inv
    simp only [mthV] at h
    split at h
    · rename_i xs hc
      obtain ⟨ws, hw, rw'⟩ := ok.lst_at e hc
      split at h
      · rename_i z hz
        obtain ⟨u, hu, ru⟩ := rw'.get hz
        exact mt_pop pins s σ w.H _ _ v us Q I rx rv ⟨a, ws, u, rfl, rfl, hw, by rw [← rw'.length]; exact hu, RdR.wr ok e hw rw'.dropLast ru h⟩
      · exact h.elim
    · exact h.elim
  · obtain ⟨u, rfl, ru⟩ := r.one_inv
    cases y with
    | int i =>
      cases ru.int_inv
      simp only [mthV] at h
      split at h
      · rename_i xs hc
        obtain ⟨ws, hw, rw'⟩ := ok.lst_at e hc
        split at h
        · rename_i k hk
          split at h
          · rename_i z hz
            obtain ⟨u, hu, ru⟩ := rw'.get hz
            obtain ⟨zz, _, _, _, _⟩ := I.lstM hw
            rw [rw'.length] at hk
            obtain ⟨k1, k2, k3, k4⟩ := ixN_seq hk
            have hs : sizeLine = 16777216 := rfl
            exact mt_popAt pins s σ w.H _ _ v us Q I rx rv ⟨a, ws, i, k, u, rfl, rfl, hw, by omega, by omega, k1, hu, RdR.wr ok e hw (rw'.eraseIdx k) ru h⟩
          · exact h.elim
        · exact h.elim
      · exact h.elim
    | _ => exact h.elim
  · simp only [mthV] at h
    exact h.elim
theorem live_of {K : PySem.W.Frag} {w : Wd} {st : Sto} {x : PV} {u : V} (ok : StOk K w st) (r : Rep K w x u) (h : liveL x st = true) : ∃ l a us, x = .ref l ∧ u = .ref a ∧ w.m[l]? = some (some a) ∧ w.H a = some (.lst us) := by
  cases r with
  | ref e =>
    obtain ⟨c, hc, o⟩ := ok.cell _ _ e
    cases c with
    | dead => exact o.elim
    | lst xs =>
      obtain ⟨us, hu, _⟩ := o
      exact ⟨_, _, us, rfl, rfl, e, hu⟩
    | obj C fs => simp [liveL, hc] at h
    | dct t kvs => simp [liveL, hc] at h
    | fdc kvs => simp [liveL, hc] at h
  | gone e => simp [liveL, ok.gone _ e] at h
  | _ => simp [liveL] at h
theorem mth_rd {m : Mth} {qs : PXs} {σ : St} {w : Wd} {e : Env} {st : Sto} {Q : VK} {ta : TE} {tq : TA} (he : EnvOk X.K w e σ)
    (h1 : ∀ Q', RdR X.K cl (WE W σ) (Rep X.K) w (ev cf pa e st) Q' → ta σ w.H Q') (h2 : ∀ (w1 : Wd) (st1 : Sto) Q', w.le w1 → StOk X.K w1 st1 → RdR X.K cl (WE W σ) (Reps X.K) w1 (evs cf qs e st1) Q' → tq σ w1.H Q')
    (h : RdR X.K cl (WE W σ) (Rep X.K) w (ev cf (.mth m pa qs) e st) Q) : ta σ w.H fun x H1 => tyV X.K "list" x H1 ∧ tq σ H1 fun xs H2 => rMth X.K cl (WE W σ) m x xs H2 Q := by
  simp only [ev] at h
  refine h1 _ (h.bind.mono fun x H1 hQ => ?_)
  obtain ⟨w1, v1, st1, e1, hw1, hs1, r1, h3⟩ := hQ
  subst e1
  split at h3
  · rename_i hl
    obtain ⟨l, a, us, rfl, rfl, el, hu⟩ := live_of hs1 r1 hl
    refine ⟨.inl ⟨rfl, us, SqL.of hu⟩, h2 w1 st1 _ hw1 hs1 (h3.bind.mono fun xs H2 ⟨w2, v2, st2, e2, hw2, hs2, r2, h4⟩ => ?_)⟩
    subst e2
    rcases hw2.loc _ _ el with z | z
    · exact ⟨w2, st2, l, a, v2, rfl, hs2, rfl, z, r2, h4⟩
    · exfalso
      have := hs2.gone _ z
      cases m <;> rcases v2 with _ | ⟨y, _ | ⟨_, _⟩⟩ <;> (try cases y) <;> simp only [mthV, this] at h4 <;> exact h4
  · exact h3.elim
end
end PL

/-! SE: sets of several keys (numbers, texts): made of a list or a tuple, and their members, in the set's own order. -/
namespace SE
open PySem PySem.Spec PyProof.Rows L2

noncomputable def vKey : Value → Key
  | .int i _ => .inl i
  | .str x _ => .inr x
  | _ => .inl 0
section
variable {P : Program} {w : World} {A : Around} {E : Value → Shared → Prop} {s : Shared} {a : Addr} {ks : List Key} {k : Key} {v : Value}
theorem vKey_is (h : (mixKind P w).is k v = true) : vKey v = k := by
  rcases keyIs_shape h with ⟨i, t, rfl, rfl⟩ | ⟨x, t, rfl, rfl⟩ <;> rfl
theorem scan_is (h : (mixKind P w).is k v = true) : v.scannable = true := by
  rcases keyIs_shape h with ⟨i, t, rfl, rfl⟩ | ⟨x, t, rfl, rfl⟩ <;> rfl
/-- the keys that lie in the table -/
noncomputable abbrev inT (es : Array (Int × Value)) : List Key := es.toList.map fun e => vKey e.2
theorem el_mem {es : Array (Int × Value)} (g : ElemsOf (mixKind P w) es.toList) : k ∈ inT es ↔ ∃ e ∈ es.toList, (mixKind P w).is k e.2 = true := by
  constructor
  · intro h
    obtain ⟨e, he, q⟩ := List.mem_map.mp h
    obtain ⟨⟨j, hj, _⟩, _⟩ := g e he
    refine ⟨e, he, ?_⟩
    rw [← q, vKey_is hj]; exact hj
  · rintro ⟨e, he, q⟩
    exact List.mem_map.mpr ⟨e, he, vKey_is q⟩

/-- the order can be told -/
noncomputable abbrev Ord (w : World) (t : SetTable) : Prop := w.params.followText "set-order" = true ∨ t.led = true
/-- a table of these keys, each once -/
structure Tbl (P : Program) (w : World) (es : Array (Int × Value)) (t : SetTable) (ks : List Key) : Prop where
  el : ElemsOf (mixKind P w) es.toList
  nd : (inT es).Nodup
  me : ∀ k, k ∈ inT es ↔ k ∈ ks
  sz : es.size ≤ ks.length
  ft : t.fits es.size = true
  ri : Ris t.place.toList
  od : Ord w t
/-- at a lies the set of ks -/
noncomputable def KS (P : Program) (w : World) (h : Heap) (a : Addr) (ks : List Key) : Prop :=
  ∃ o es ep t, h.get? a = some o ∧ o.ExactSet ∧ o.data = .set es ep t ∧ Tbl P w es t ks
theorem KS.keep {h h' : Heap} (R : KS P w h a ks) (c : ∀ o, h.get? a = some o → h'.get? a = some o) : KS P w h' a ks := by
  obtain ⟨o, es, ep, t, ho, r⟩ := R
  exact ⟨o, es, ep, t, c o ho, r⟩

theorem st_tail {g : Bool → Sem Unit} (hg : ∀ (b : Bool) (s' : Shared) (Q' : Unit → Shared → Prop), Q' () s' → wpAny (model P w) A (g b) Q' E s')
    {o : Obj} {es es1 : Array (Int × Value)} {ep : Nat} {t t2 : SetTable} (ho : s.heap.get? a = some o) (hx : o.ExactSet) (hd : o.data = .set es ep t)
    (T : Tbl P w es1 t2 ks) (hb : es1.size < scanBound) {dm : Bool} {R : Option Bool → Shared → Prop}
    (hR : ∀ h', Heap.SameBut a s.heap h' → KS P w h' a ks → R (some true) { s with heap := h' }) :
    wpAny (model P w) A (do
        storeSet a es1 t2
        if (!dm && t2.tooFull) = true then do
            g (relayAll t2 es1 (SetTable.grown es1.size)).2.2
            storeSet a (relayAll t2 es1 (SetTable.grown es1.size)).1 (relayAll t2 es1 (SetTable.grown es1.size)).2.1
            pure (some true)
          else pure (some true)) R E s := by
  refine wpAny_bind (wpAny_storeSet_of ho hd ?_ (fits_of_scanBound hb))
  have o1 := store_at (es' := es1) (t' := t2) ho hd
  have c1 := Heap.SameBut.update s.heap a (Obj.putSet es1 t2)
  split
  · have q1 := relayAll_perm t2 es1 (SetTable.grown es1.size)
    have q2 := relayAll_fits t2 es1 (SetTable.grown es1.size)
    have q3 := relayAll_ris t2 es1 (SetTable.grown es1.size)
    have q4 := relayAll_led t2 es1 (SetTable.grown es1.size)
    generalize relayAll t2 es1 (SetTable.grown es1.size) = Z at q1 q2 q3 q4 ⊢
    obtain ⟨es2, t3, gv⟩ := Z
    dsimp only at q1 q2 q3 q4 ⊢
    have z : es2.size = es1.size := by
      have := q1.length_eq
      simpa using this
    refine wpAny_bind (hg _ _ _ ?_)
    refine wpAny_bind (wpAny_storeSet_of o1 rfl ?_ (fits_of_scanBound (z ▸ hb)))
    have pk := q1.map fun e : Int × Value => vKey e.2
    refine wpAny_pure (hR _ (c1.trans (Heap.SameBut.update _ a _)) ⟨_, es2, _, t3, store_at (es' := es2) (t' := t3) o1 rfl, hx, rfl, ?_⟩)
    exact { el := fun e he => T.el e (q1.mem_iff.mp he), nd := pk.nodup_iff.mpr T.nd, me := fun j => pk.mem_iff.trans (T.me j), sz := z ▸ T.sz, ft := q2, ri := q3, od := T.od.imp id fun y => by rw [q4]; exact y }
  · exact wpAny_pure (hR _ c1 ⟨_, es1, _, t2, o1, hx, rfl, T⟩)

theorem ks_add {Q : Bool → Shared → Prop} (R : KS P w s.heap a ks) (hv : (mixKind P w).is k v = true) (room : ks.length + 1 < scanBound)
    (hQ : ∀ b h', Heap.SameBut a s.heap h' → KS P w h' a (ks ++ [k]) → Q b { s with heap := h' }) :
    wpAny (model P w) A (setAddHashed a v ((mixKind P w).hash k)) Q E s := by
  obtain ⟨o, es, ep, t, ho, hx, hd, T⟩ := R
  have hb : es.size < scanBound := Nat.lt_of_le_of_lt T.sz (Nat.lt_of_succ_lt room)
  have hs := scan_is hv
  unfold setAddHashed setAddHashedIn
  refine wpAny_holding (wpAny_bind (wpAny_setState_of ho hd T.ft ?_))
  dsimp only
  rw [byScan_of hs hb T.el]
  simp only [↓reduceIte]
  unfold setAddByScan
  refine wpAny_bind (wpAny_bind (wpAny_rule (wpAny_bind (wpAny_setScan_of hv ho hd T.ft T.el ?_))))
  cases hf : List.findIdx? (fun e => (mixKind P w).is k e.2) es.toList with
  | some j =>
    dsimp only
    obtain ⟨hj, pj, _⟩ := List.findIdx?_eq_some_iff_getElem.mp hf
    have hk : k ∈ ks := (T.me k).1 ((el_mem T.el).2 ⟨_, List.getElem_mem hj, pj⟩)
    refine wpAny_pure (wpAny_pure (hQ false s.heap (Heap.SameBut.refl a s.heap) ⟨o, es, ep, t, ho, hx, hd, ?_⟩))
    refine { T with me := fun i => ?_, sz := ?_ }
    · rw [T.me i, List.mem_append, List.mem_singleton]
      exact ⟨.inl, fun y => y.elim id fun e => e ▸ hk⟩
    · rw [List.length_append]; exact Nat.le_trans T.sz (Nat.le_add_right _ _)
  | none =>
    dsimp only
    have hk : k ∉ inT es := fun y => by
      obtain ⟨e, he, q⟩ := (el_mem T.el).1 y
      have c := List.findIdx?_eq_none_iff.mp hf e he
      rw [q] at c
      cases c
    have q1 := layNew_perm t es ((mixKind P w).hash k) v
    have q2 := layNew_fits t es ((mixKind P w).hash k) v
    have q3 := layNew_ris t es ((mixKind P w).hash k) v T.ri
    have q4 := layNew_led t es ((mixKind P w).hash k) v
    generalize layNew t es ((mixKind P w).hash k) v = Z at q1 q2 q3 q4 ⊢
    obtain ⟨es1, t1, dm, gv⟩ := Z
    dsimp only at q1 q2 q3 q4 ⊢
    rw [Array.toList_push] at q1
    have pc := q1.trans (List.perm_append_singleton _ _)
    have pk : (inT es1).Perm (k :: inT es) := by
      have := pc.map fun e : Int × Value => vKey e.2
      rw [List.map_cons] at this
      rwa [show vKey v = k from vKey_is hv] at this
    have z : es1.size = es.size + 1 := by
      have := pc.length_eq
      simpa using this
    have T1 : ∀ t2 : SetTable, t2.fits es1.size = true → Ris t2.place.toList → t2.led = t1.led → Tbl P w es1 t2 (ks ++ [k]) := fun t2 a1 a2 a3 =>
      { el := fun e he => by
          rcases List.mem_cons.mp (pc.mem_iff.mp he) with y | y
          · rw [y]; exact ⟨⟨k, hv, rfl⟩, hs⟩
          · exact T.el e y
        nd := pk.nodup_iff.mpr (List.nodup_cons.mpr ⟨hk, T.nd⟩)
        me := fun i => by rw [pk.mem_iff, List.mem_cons, T.me i, List.mem_append, List.mem_singleton]; exact Or.comm
        sz := by rw [z, List.length_append]; exact Nat.succ_le_succ T.sz
        ft := a1, ri := a2, od := T.od.imp id fun y => by rw [a3, q4]; exact y }
    have hb1 : es1.size < scanBound := by rw [z]; exact Nat.lt_of_le_of_lt (Nat.succ_le_succ T.sz) room
    have gw : ∀ (b : Bool) (s' : Shared) (Q' : Unit → Shared → Prop), Q' () s' → wpAny (model P w) A (match b with | true => rule "set.scan.the-table-gave-way" | false => pure ()) Q' E s' :=
      fun b s' Q' q => by cases b <;> first | exact wpAny_pure q | exact wpAny_rule q
    refine wpAny_bind (gw _ _ _ ?_)
    split
    · refine wpAny_bind ?_
      rw [hashByValue_scannable 8 hs]
      refine wpAny_pure (st_tail (gw) ho hx hd (T1 _ ?_ ?_ ?_) hb1 ?_)
      · first | (split <;> first | exact q2 | exact SetTable.fits_plain_off q2) | exact q2
      · first | (split <;> exact q3) | exact q3
      · first | (split <;> rfl) | rfl
      · intro h' sb r; dsimp only; exact wpAny_pure (hQ _ h' sb r)
    · refine wpAny_bind (wpAny_pure ?_)
      simp only [↓reduceIte]
      refine st_tail (gw) ho hx hd (T1 t1 q2 q3 rfl) hb1 ?_
      intro h' sb r; dsimp only; exact wpAny_pure (hQ _ h' sb r)
end
end SE

/-! SE2: set(xs) of a list or a tuple of keys; its members gathered; sorted of it. -/
namespace SE
open PySem PySem.Spec PyProof.Rows L2
section
variable {P : Program} {w : World} {A : Around} {E : Value → Shared → Prop} {s : Shared} {a : Addr} {ks : List Key}

theorem upd_loop {I : Addr} {fp wr : List Addr} {G : Array GenState → Array GenState → Prop} {n : Nat} {Pv : Nat → Value → Prop} {St : Nat → Shared → Prop} {R : Result → Shared → Prop}
    (W : WalksS P w A.in1 I fp wr G n Pv St) (D : Addr) (hD : D ∉ fp) (ks : List Key) (hn : n = ks.length) (hb : ks.length + 1 < scanBound) (hv : ∀ i v, Pv i v → ∃ k, ks[i]? = some k ∧ (mixKind P w).is k v = true) :
    ∀ (d i : Nat) (s : Shared), n - i = d → i ≤ n → St i s → KS P w s.heap D (ks.take i) →
      (∀ s', Moved (D :: wr) G s s' → KS P w s'.heap D ks → R (.ok (.ret .none)) s') →
      codeAny (model P w) A (.builtin "set.update.loop" ⟨[.ref D, .ref I], []⟩) R s := by
  have hw : D ∉ wr := fun h => hD (W.sub _ h)
  have up : ∀ b ∈ wr, b ∈ D :: wr := fun b hb => List.mem_cons_of_mem _ hb
  intro d
  induction d with
  | zero =>
    intro i s hd hi st r q
    have e : ks.take i = ks := List.take_of_length_le (by omega)
    obtain rfl : i = n := by omega
    refine codeAny_builtin F.entry_set_update_loop ?_
    rw [Around.under_plainId F.plain_set_update_loop _]
    show wpAny _ A.in1 (pyNext (.ref I) >>= _) _ _ s
    refine wpAny_bind (W.done s _ _ st fun s' mv => ?_)
    rw [e] at r
    exact wpAny_pure (q s' (mv.mono up) (r.keep fun o eo => mv.heap D o hw eo))
  | succ d ih =>
    intro i s hd hi st r q
    refine codeAny_builtin F.entry_set_update_loop ?_
    rw [Around.under_plainId F.plain_set_update_loop _]
    show wpAny _ A.in1 (pyNext (.ref I) >>= _) _ _ s
    refine wpAny_bind (W.item i s _ _ (by omega) st fun v s' pv st' mv => ?_)
    obtain ⟨k, hk, hkv⟩ := hv i v pv
    show wpAny _ A.in1 (holding [v] (setAdd D v) >>= _) _ _ s'
    refine wpAny_bind (wpAny_holding ?_)
    unfold setAdd
    refine wpAny_holding (wpAny_bind ((mixKind P w).pyHash hkv ?_))
    refine ks_add (s := { s' with toks := s'.toks + 1 }) (r.keep fun o eo => mv.heap D o hw eo) hkv (by rw [List.length_take]; omega) fun b h' sb r2 => ?_
    have e2 : ks.take i ++ [k] = ks.take (i + 1) := by rw [List.take_add_one, hk]; rfl
    rw [e2] at r2
    refine wpAny_pure ⟨plainId_quiet F.plain_set_update_loop _, ih (i + 1) _ (by omega) (by omega) (W.frame _ s' _ _ st' (Nat.le_succ _) fun b hb o eo => ?_) r2 fun s2 m2 r3 => ?_⟩
    · rw [sb.2 b fun (z : b = D) => hD (z ▸ hb)]; exact eo
    · refine q s2 (Moved.trans W.gtrans ((mv.mono up).then_heap (Nat.le_succ _) fun b o hb eo => ?_) m2) r3
      rw [sb.2 b fun (z : b = D) => hb (z ▸ List.mem_cons_self)]; exact eo

/-- an empty set, new -/
noncomputable abbrev nSet (w : World) : Obj := { cls := .type "set", dict := none, data := .set #[] 0 (.fresh 0 0 (!w.params.followText "set-order")) }
theorem ks_nil {h : Heap} (ho : h.get? a = some (nSet w)) : KS P w h a [] := by
  refine ⟨_, #[], 0, _, ho, ⟨rfl, rfl, rfl⟩, rfl, ?_⟩
  refine { el := fun e he => by simp at he, nd := by simp [inT], me := fun k => by simp [inT], sz := Nat.le_refl _, ft := rfl, ri := List.Pairwise.nil, od := ?_ }
  show _ ∨ (!w.params.followText "set-order") = true
  cases w.params.followText "set-order"
  · exact .inr rfl
  · exact .inl rfl

/-- set(x), x a list (b) or a tuple -/
theorem call_set {b : Bool} {l : Addr} {its : Array Value} {Q : Value → Shared → Prop} (hh : A.handled = none) (hl : cond b (s.heap.IsList l its) (s.heap.IsTuple l its))
    (hn : its.size = ks.length) (hi : ∀ (i : Nat) (v : Value), its[i]? = some v → ∃ k, ks[i]? = some k ∧ (mixKind P w).is k v = true) (hb : ks.length + 1 < scanBound)
    (q : ∀ (h' : Heap) (tk : Nat), KS P w h' s.heap.objs.size ks → (∀ b o, s.heap.get? b = some o → h'.get? b = some o) → Q (.ref s.heap.objs.size) { s with heap := h', toks := tk }) :
    wpAny (model P w) A (call (.type "set") [.ref l]) Q E s := by
  obtain ⟨c, tl, hmro⟩ := F.called_set.mro
  have hmade := F.called_set.made
  have hsub := F.called_set.sub
  refine wpAny_call (codeAny_of_tree (show wpAny _ _ (callAny (.type "set") _) _ _ _ from ?_))
  refine wpAny_pure ⟨Code.quiet_builtin _ (by decide +kernel), ?_⟩
  refine codeAny_builtin F.entry_type_call ?_
  rw [Around.under_plain (weight_type_call_type "set" [.ref l] []) rfl]
  have h1 := F.called_set.notType
  have h2 := F.called_set.canCreate
  have h3 := F.typeCall_set_1 (.ref l)
  repeat (any_goals (first | assumption | wp_step))
  refine codeAny_mono (code_set_led1 (.ref l) (E := E) (Q₁ := fun x s1 => x = .ref s.heap.objs.size ∧ s1 = { s with heap := s.heap.push (nSet w) }) ⟨rfl, rfl⟩) fun r s1 hr => ?_
  match r, hr with
  | .error e, hr => exact hr
  | .ok (.ret x), hr =>
    obtain ⟨rfl, rfl⟩ := hr
    have hS : (s.heap.push (nSet w)).get? s.heap.objs.size = some (nSet w) := Heap.get?_push_size _ rfl
    have hT : Shared.TypeIs { s with heap := s.heap.push (nSet w) } (.ref s.heap.objs.size) "set" := ⟨_, hS, rfl⟩
    have h4 := F.called_set.init.lookup
    have h5 := F.called_set.init.bind (.ref s.heap.objs.size)
    repeat (any_goals (first | assumption | wp_step))
    refine codeAny_mono (codeAny_call_builtin (R := wants (fun r s2 => r = .none ∧ ∃ h' tk, s2 = { s with heap := h', toks := tk } ∧ KS P w h' s.heap.objs.size ks ∧ ∀ b o, s.heap.get? b = some o → h'.get? b = some o) E)
      F.called_set.init.plain F.entry_set_init (check_set_init_1 hT ?_)) fun r2 s2 hr2 => ?_
    · have hz : (s.heap.push (nSet w)).objs.size = s.heap.objs.size + 1 := Heap.size_push ..
      have hh3 : A.in1.in1.in1.handled = none := by simp [hh]
      cases b with
      | true =>
        have hl0 : s.heap.IsList l its := hl
        obtain ⟨ol, hol, hcl, nl, hdl⟩ := id hl0
        have hlt : l < s.heap.objs.size := Heap.lt_size hol
        obtain ⟨ocls, odict, odata, oslots⟩ := ol
        simp only at hcl hdl
        subst hcl; subst hdl
        have hol' : (s.heap.push (nSet w)).get? l = some { cls := .type "list", dict := odict, data := .seq its nl, slots := oslots } := Heap.get?_push_of_some _ hol
        have f1 := F.sub_list_set
        have f2 := F.sub_list_frozenset
        have f3 : (Value.type "list" == Value.type "dict") = false := by decide
        have hl1 := hl0.push (nSet w)
        unfold Builtin.«set.__init__» noKeywords Builtin.Frozenset.updateFrom
        generalize hPI : pyIter = PI
        wp_walk
        subst hPI
        refine wpAny_pyIter_list hl1 (wpAny_bind (wpAny_runValue ?_))
        refine upd_loop ((Walks.list hh3 _ l (by rw [hz]; exact Nat.ne_of_lt (Nat.lt_succ_of_lt hlt)) its).toS) s.heap.objs.size ?_ ks hn hb hi its.size 0 _ (by omega) (Nat.zero_le _)
          ⟨⟨_, Heap.get?_push_size _ rfl, rfl, rfl⟩, hl1.push _⟩ (ks_nil (Heap.get?_push_of_some _ hS)) fun s' mv r => ?_
        · rw [hz]; simp only [List.mem_cons, List.not_mem_nil, or_false, not_or]; exact ⟨Nat.ne_of_lt (Nat.lt_succ_self _), Nat.ne_of_gt hlt⟩
        · obtain ⟨h', g', d', tk', os'⟩ := s'
          obtain rfl : g' = s.gens := mv.gens
          obtain rfl : d' = s.drawn := mv.drawn
          obtain rfl : os' = s.os := mv.os
          refine wpAny_pure (show wpAny _ _ (ret Value.none) _ _ _ from wpAny_pure ⟨rfl, h', tk', rfl, r, fun b o eo => ?_⟩)
          have lb := Heap.lt_size eo
          refine mv.heap b o ?_ (Heap.get?_push_of_some _ (Heap.get?_push_of_some _ eo))
          rw [hz]; simp only [List.mem_cons, List.not_mem_nil, or_false, not_or]; exact ⟨Nat.ne_of_lt lb, Nat.ne_of_lt (Nat.lt_succ_of_lt lb)⟩
      | false =>
        have hl0 : s.heap.IsTuple l its := hl
        obtain ⟨ol, hol, hcl, nl, hdl⟩ := id hl0
        have hlt : l < s.heap.objs.size := Heap.lt_size hol
        obtain ⟨ocls, odict, odata, oslots⟩ := ol
        simp only at hcl hdl
        subst hcl; subst hdl
        have hol' : (s.heap.push (nSet w)).get? l = some { cls := .type "tuple", dict := odict, data := .seq its nl, slots := oslots } := Heap.get?_push_of_some _ hol
        have f1 := F.sub_tuple_set
        have f2 := F.sub_tuple_frozenset
        have f3 : (Value.type "tuple" == Value.type "dict") = false := by decide
        have hl1 := hl0.push (nSet w)
        unfold Builtin.«set.__init__» noKeywords Builtin.Frozenset.updateFrom
        generalize hPI : pyIter = PI
        wp_walk
        subst hPI
        refine wpAny_pyIter_tuple hl1 (wpAny_bind (wpAny_runValue ?_))
        refine upd_loop ((Walks.tuple hh3 _ l (by rw [hz]; exact Nat.ne_of_lt (Nat.lt_succ_of_lt hlt)) its).toS) s.heap.objs.size ?_ ks hn hb hi its.size 0 _ (by omega) (Nat.zero_le _)
          ⟨⟨_, Heap.get?_push_size _ rfl, rfl, rfl⟩, hl1.push _⟩ (ks_nil (Heap.get?_push_of_some _ hS)) fun s' mv r => ?_
        · rw [hz]; simp only [List.mem_cons, List.not_mem_nil, or_false, not_or]; exact ⟨Nat.ne_of_lt (Nat.lt_succ_self _), Nat.ne_of_gt hlt⟩
        · obtain ⟨h', g', d', tk', os'⟩ := s'
          obtain rfl : g' = s.gens := mv.gens
          obtain rfl : d' = s.drawn := mv.drawn
          obtain rfl : os' = s.os := mv.os
          refine wpAny_pure (show wpAny _ _ (ret Value.none) _ _ _ from wpAny_pure ⟨rfl, h', tk', rfl, r, fun b o eo => ?_⟩)
          have lb := Heap.lt_size eo
          refine mv.heap b o ?_ (Heap.get?_push_of_some _ (Heap.get?_push_of_some _ eo))
          rw [hz]; simp only [List.mem_cons, List.not_mem_nil, or_false, not_or]; exact ⟨Nat.ne_of_lt lb, Nat.ne_of_lt (Nat.lt_succ_of_lt lb)⟩
    · match r2, hr2 with
      | .error e, hr2 => exact hr2
      | .ok (.ret x), hr2 =>
        obtain ⟨rfl, h', tk, rfl, r, kk⟩ := hr2
        repeat (any_goals (first | assumption | wp_step))
        exact q _ _ r kk
      | .ok (.brk), hr2 => exact hr2.elim
      | .ok (.cont), hr2 => exact hr2.elim
      | .ok (.next), hr2 => exact hr2.elim
  | .ok (.brk), hr => exact hr.elim
  | .ok (.cont), hr => exact hr.elim
  | .ok (.next), hr => exact hr.elim
end
end SE

/-! SE3: sorted of a set of keys; sorted of a tuple. -/
namespace SE
open PySem PySem.Spec PyProof.Rows L2
noncomputable def encK : Key → PyData
  | .inl i => .int i
  | .inr x => .str x
/-- all numbers, or all texts -/
noncomputable def Like (ks : List Key) : Prop := (∀ k ∈ ks, ∃ i, k = .inl i) ∨ ∀ k ∈ ks, ∃ x, k = .inr x
theorem Like.sub {ks js : List Key} (h : Like ks) (m : ∀ k ∈ js, k ∈ ks) : Like js := h.imp (fun q k hk => q k (m k hk)) fun q k hk => q k (m k hk)
theorem Like.alike {ks : List Key} (h : Like ks) : W.AllAlike (ks.map encK) := by
  intro d hd d' hd'
  obtain ⟨k, hk, rfl⟩ := List.mem_map.mp hd
  obtain ⟨k', hk', rfl⟩ := List.mem_map.mp hd'
  rcases h with h | h
  · obtain ⟨i, rfl⟩ := h k hk
    obtain ⟨j, rfl⟩ := h k' hk'
    rfl
  · obtain ⟨i, rfl⟩ := h k hk
    obtain ⟨j, rfl⟩ := h k' hk'
    rfl
theorem key_sortable (ks : List Key) : W.Sortable (ks.map encK) := by
  refine .inr fun d hd => ?_
  obtain ⟨k, hk, rfl⟩ := List.mem_map.mp hd
  cases k <;> simp [encK]
theorem each_map {α β : Type} {R : α → β → Prop} (f : α → β) : ∀ {l : List α}, (∀ a ∈ l, R a (f a)) → W.EachIs R l (l.map f)
  | [], _ => .nil
  | a :: l, h => .cons (h a List.mem_cons_self) (each_map f fun b hb => h b (List.mem_cons_of_mem _ hb))
section
variable {P : Program} {w : World} {A : Around} {E : Value → Shared → Prop} {s : Shared} {a : Addr} {ks : List Key}
theorem sorted_ks {Q : Value → Shared → Prop} (R : KS P w s.heap a ks) (hh : A.handled = none) (hu : A.units + 64 < cLine) (hal : Like ks) (hb : ks.length < scanBound)
    (q : ∀ s' p (out : List Value) (c : Nat) (js : List Key), (∀ b o, s.heap.get? b = some o → s'.heap.get? b = some o) → s'.gens = s.gens → s'.os = s.os → s.heap.objs.size ≤ p →
      s'.heap.get? p = some (seqObj "list" out.toArray c) → W.EachIs (fun v k => (mixKind P w).is k v = true) out (js.mergeSort (W.dataLe false encK)) → js.Nodup → (∀ k, k ∈ js ↔ k ∈ ks) → Q (.ref p) s') :
    wpAny (model P w) A (call (.builtin "sorted") [.ref a]) Q E s := by
  obtain ⟨o, es, ep, t, ho, hx, hd, T⟩ := R
  refine Calls.call_function_entry kind_sorted plain_sorted entry_sorted (args_sorted1 _) ?_
  unfold Builtin.«sorted»
  refine wpAny_bind (m := checkCount "sorted" 1 1 _) (wpAny_pure ?_)
  refine wpAny_bind (collect_set (A := A.in1) hh ⟨o, ho, hx.1, hd⟩ T.ft (Nat.lt_of_le_of_lt T.sz hb) T.ri T.od fun s1 vs k1 hz g1 o1 pm => ?_)
  have pk : (vs.map vKey).Perm (inT es) := by
    have := pm.map vKey
    rwa [List.map_map] at this
  have hvl : vs.length < scanBound := by
    have h1 := pm.length_eq
    simp only [List.length_map, Array.length_toList] at h1
    rw [h1]
    exact Nat.lt_of_le_of_lt T.sz hb
  have hvs : vs.length ≤ sizeLine := fits_of_scanBound hvl
  have hm : ∀ k, k ∈ vs.map vKey ↔ k ∈ ks := fun k => pk.mem_iff.trans (T.me k)
  have hv : ∀ v ∈ vs, (mixKind P w).is (vKey v) v = true := fun v hv => by
    obtain ⟨e, he, rfl⟩ := List.mem_map.mp (pm.mem_iff.mp hv)
    obtain ⟨⟨j, hj, _⟩, _⟩ := T.el e he
    rw [vKey_is hj]; exact hj
  have hrd : ∀ (h : Heap) v, v ∈ vs → ∃ as, Reads h v (encK (vKey v)) as ∧ s1.heap.objs.size ∉ as := fun h v hv' => by
    have := hv v hv'
    rcases keyIs_shape this with ⟨i, t, _, rfl⟩ | ⟨x, t, _, rfl⟩
    · exact ⟨[], .int i t, by simp⟩
    · exact ⟨[], .str x t, by simp⟩
  refine wpAny_bind (wpAny_newList ?_ hvs)
  have oL : (s1.heap.push (seqObj "list" vs.toArray 0)).get? s1.heap.objs.size = some (seqObj "list" vs.toArray 0) := Heap.get?_push_size _ rfl
  refine wpAny_bind (wpAny_holding ?_)
  refine W.list_sort_data (s := { s1 with heap := s1.heap.push (seqObj "list" vs.toArray 0) }) (R := fun v k => (mixKind P w).is k v = true) (bs := vs.map vKey) (enc := encK) oL (each_map vKey hv) (each_map vKey fun v hv' => hrd _ v hv')
    ((hal.sub fun k hk => (hm k).1 hk).alike) (key_sortable _) (by rw [List.length_map]; exact hvs) ?_ fun out hl he => ?_
  · intro k _
    have : (encK k).depth ≤ 1 := by cases k <;> simp [encK, PyData.depth]
    have e1 : A.in1.units = A.units + 1 := rfl
    omega
  · obtain ⟨c, hc⟩ := sortedHeap_at (vs := vs) (out := out.toArray) oL
    have kp : ∀ b u, s.heap.get? b = some u → (sortedHeap (s1.heap.push (seqObj "list" vs.toArray 0)) s1.heap.objs.size vs out.toArray).get? b = some u := fun b u e => by
      have q1 := k1 b u e
      have lt := Heap.lt_size q1
      exact (sortedHeap_old (Nat.ne_of_lt lt) (by rw [size_push']; exact Nat.lt_succ_of_lt lt)).trans (Heap.get?_push_of_some _ q1)
    have fin := q { s1 with heap := sortedHeap (s1.heap.push (seqObj "list" vs.toArray 0)) s1.heap.objs.size vs out.toArray } s1.heap.objs.size out c (vs.map vKey) kp g1 o1 hz hc he (pk.nodup_iff.mpr T.nd) hm
    exact wpAny_pure ⟨_, rfl, fin⟩
end
end SE

/-! SE4: sorted of a tuple of keys. -/
namespace SE
open PySem PySem.Spec PyProof.Rows L2
section
variable {P : Program} {w : World} {A : Around} {E : Value → Shared → Prop} {s : Shared} {ks : List Key}
theorem sorted_tup {l : Addr} {vs : List Value} {Q : Value → Shared → Prop} (hl : s.heap.IsTuple l vs.toArray) (he : W.EachIs (fun v k => (mixKind P w).is k v = true) vs ks) (hu : A.units + 64 < cLine) (hal : Like ks) (hb : ks.length ≤ sizeLine)
    (q : ∀ (h1 h' : Heap) (p : Addr) (out : List Value) (c : Nat), (∀ b o, s.heap.get? b = some o → h1.get? b = some o) → (∀ b o, h1.get? b = some o → h'.get? b = some o) → h1.objs.size ≤ p → h'.get? p = some (seqObj "list" out.toArray c) →
      W.EachIs (fun v k => (mixKind P w).is k v = true) out (ks.mergeSort (W.dataLe false encK)) → Q (.ref p) { s with heap := h' }) :
    wpAny (model P w) A (call (.builtin "sorted") [.ref l]) Q E s := by
  obtain ⟨o, ho, hc, n, hd⟩ := hl
  have hvs : vs.length ≤ sizeLine := by rw [he.length]; exact hb
  refine Calls.call_function_entry kind_sorted plain_sorted entry_sorted (args_sorted1 _) ?_
  unfold Builtin.«sorted»
  refine wpAny_bind (m := checkCount "sorted" 1 1 _) (wpAny_pure ?_)
  refine wpAny_bind (wpAny_collect_seq (A := A.in1) l (.inr rfl) ho hc hd (fun h1 k1 => ?_) (by simpa using hvs))
  refine wpAny_bind (wpAny_newList ?_ hvs)
  have oL : (h1.push (seqObj "list" vs.toArray 0)).get? h1.objs.size = some (seqObj "list" vs.toArray 0) := Heap.get?_push_size _ rfl
  refine wpAny_bind (wpAny_holding ?_)
  refine W.list_sort_data (s := { s with heap := h1.push (seqObj "list" vs.toArray 0) }) (R := fun v k => (mixKind P w).is k v = true) (bs := ks) (enc := encK) oL he (he.mono fun v k hv => ?_) hal.alike (key_sortable _) hb ?_ fun out hl he => ?_
  · rcases keyIs_shape hv with ⟨i, t, rfl, rfl⟩ | ⟨x, t, rfl, rfl⟩
    · exact ⟨[], .int i t, by simp⟩
    · exact ⟨[], .str x t, by simp⟩
  · intro k _
    have : (encK k).depth ≤ 1 := by cases k <;> simp [encK, PyData.depth]
    have e1 : A.in1.units = A.units + 1 := rfl
    omega
  · obtain ⟨c, hc⟩ := sortedHeap_at (vs := vs) (out := out.toArray) oL
    have kp : ∀ b u, h1.get? b = some u → (sortedHeap (h1.push (seqObj "list" vs.toArray 0)) h1.objs.size vs out.toArray).get? b = some u := fun b u e => by
      have q1 := e
      have lt := Heap.lt_size q1
      exact (sortedHeap_old (Nat.ne_of_lt lt) (by rw [size_push']; exact Nat.lt_succ_of_lt lt)).trans (Heap.get?_push_of_some _ q1)
    have fin := q h1 (sortedHeap (h1.push (seqObj "list" vs.toArray 0)) h1.objs.size vs out.toArray) h1.objs.size out c k1 kp (Nat.le_refl _) hc he
    exact wpAny_pure ⟨_, rfl, fin⟩
end
end SE

/-! SE5: sorted lists of keys, as values of the layer. -/
namespace PL
open PySem PySem.Spec PyProof.Rows L2 SE
noncomputable def pvK : Key → PV
  | .inl i => .int i
  | .inr x => .str x.cps.toList
theorem dl_ii (i j : Int) : W.dataLe false encK (.inl i) (.inl j) = decide (i ≤ j) := by
  have h := congrFun (congrFun (W.dataLe_int (fun b : Int => b)) i) j
  rw [W.dataLe_eq] at h ⊢
  exact h
theorem dl_ss (x y : Str) : W.dataLe false encK (.inr x) (.inr y) = decide (x.cps.toList ≤ y.cps.toList) := by
  have h := congrFun (congrFun (W.dataLe_str (fun b : Str => b)) x) y
  rw [W.dataLe_eq] at h ⊢
  exact h
theorem sort_ints (ns : List Int) : (ns.map Sum.inl).mergeSort (W.dataLe false encK) = (ns.mergeSort fun a b => decide (a ≤ b)).map (Sum.inl : Int → Key) := by
  rw [List.map_mergeSort]
  intro a _ b _
  exact (dl_ii a b).symm
theorem sort_strs (ys : List Str) : ((ys.map Sum.inr).mergeSort (W.dataLe false encK)).map pvK = ((ys.map fun z => z.cps.toList).mergeSort fun a b => decide (a ≤ b)).map PV.str := by
  have h1 : (ys.map Sum.inr).mergeSort (W.dataLe false encK) = (ys.mergeSort fun a b => decide (a.cps.toList ≤ b.cps.toList)).map (Sum.inr : Str → Key) := by
    rw [List.map_mergeSort]
    intro a _ b _
    exact (dl_ss a b).symm
  have h2 : (ys.map fun z => z.cps.toList).mergeSort (fun a b => decide (a ≤ b)) = (ys.mergeSort fun a b => decide (a.cps.toList ≤ b.cps.toList)).map fun z => z.cps.toList := by
    rw [List.map_mergeSort]
    intro a _ b _
    rfl
  rw [h1, h2, List.map_map, List.map_map]
  rfl
theorem ms_perm {α : Type} {le : α → α → Bool} (tr : ∀ a b c, le a b = true → le b c = true → le a c = true) (to : ∀ a b, (le a b || le b a) = true) (an : ∀ a b, le a b = true → le b a = true → a = b) {l m : List α} (p : l.Perm m) : l.mergeSort le = m.mergeSort le :=
  List.Perm.eq_of_pairwise (le := fun a b => le a b = true) (fun a b _ _ => an a b) (List.pairwise_mergeSort tr to l) (List.pairwise_mergeSort tr to m) (((List.mergeSort_perm l le).trans p).trans (List.mergeSort_perm m le).symm)
theorem ms_int {l m : List Int} (p : l.Perm m) : l.mergeSort (fun a b => decide (a ≤ b)) = m.mergeSort fun a b => decide (a ≤ b) :=
  ms_perm (fun a b c h1 h2 => by simp at *; omega) (fun a b => by simp; omega) (fun a b h1 h2 => by simp at *; omega) p
theorem ms_str {l m : List (List Nat)} (p : l.Perm m) : l.mergeSort (fun a b => decide (a ≤ b)) = m.mergeSort fun a b => decide (a ≤ b) :=
  ms_perm (fun a b c h1 h2 => by simp only [decide_eq_true_eq] at *; exact List.le_trans h1 h2) (fun a b => by simp only [Bool.or_eq_true, decide_eq_true_eq]; exact List.le_total a b) (fun a b h1 h2 => by simp only [decide_eq_true_eq] at *; exact List.le_antisymm h1 h2) p
theorem ddL_mem {α : Type} [DecidableEq α] (x : α) : ∀ l : List α, x ∈ ddL l ↔ x ∈ l
  | [] => by simp [ddL]
  | y :: r => by
    have ih := ddL_mem x r
    simp only [ddL]
    split
    · rename_i h
      rw [ih, List.mem_cons]
      exact ⟨.inr, fun q => q.elim (fun e => by rw [e]; exact (ddL_mem y r).1 h) id⟩
    · rw [List.mem_cons, List.mem_cons, ih]
theorem ddL_nodup {α : Type} [DecidableEq α] : ∀ l : List α, (ddL l).Nodup
  | [] => List.Pairwise.nil
  | y :: r => by
    simp only [ddL]
    split
    · exact ddL_nodup r
    · rename_i h
      exact List.nodup_cons.mpr ⟨h, ddL_nodup r⟩
theorem each_is {P : Program} {w : World} : ∀ {ks : List Key} {us : List Value}, Vals (ks.map kV) us → W.EachIs (fun v k => (mixKind P w).is k v = true) us ks
  | [], _, h => by cases h; exact .nil
  | k :: ks, _, h => by
    cases h with
    | cons r t => exact .cons (kV_is r) (each_is t)
theorem is_each {P : Program} {w : World} : ∀ {ks : List Key} {us : List Value}, W.EachIs (fun v k => (mixKind P w).is k v = true) us ks → Vals (ks.map kV) us
  | _, _, .nil => .nil
  | _, _, .cons h t => .cons (keyIs_rel h) (is_each t)
theorem reps_ints {K : W.Frag} {w : Wd} : ∀ l : List Int, Reps K w (l.map PV.int) (l.map V.int)
  | [] => .nil
  | i :: l => .cons (.int i) (reps_ints l)
theorem kV_ints (ns : List Int) : (ns.map (Sum.inl : Int → Key)).map kV = ns.map V.int := by rw [List.map_map]; rfl
theorem kV_strs (ys : List Str) : (ys.map (Sum.inr : Str → Key)).map kV = ys.map V.str := by rw [List.map_map]; rfl
theorem reps_of {K : W.Frag} {w : Wd} : ∀ {js : List Key}, (∀ k ∈ js, Rep K w (pvK k) (kV k)) → Reps K w (js.map pvK) (js.map kV)
  | [], _ => .nil
  | k :: js, h => .cons (h k List.mem_cons_self) (reps_of fun j hj => h j (List.mem_cons_of_mem _ hj))
theorem reps_strs {K : W.Frag} {w : Wd} : ∀ {xs : List PV} {us : List V} {ts : List (List Nat)}, Reps K w xs us → strsV xs = some ts → ∃ ys : List Str, us = ys.map V.str ∧ ys.map (fun z => z.cps.toList) = ts ∧ ∀ y ∈ ys, y.length ≤ sizeLine
  | _, _, _, .nil, e => by simp [strsV] at e; subst e; exact ⟨[], rfl, rfl, by simp⟩
  | _, _, _, .cons h r, e => by
    cases h with
    | str z h =>
      simp only [strsV, Option.map_eq_some_iff] at e
      obtain ⟨ts, e1, rfl⟩ := e
      obtain ⟨ys, e2, e3, e4⟩ := reps_strs r e1
      exact ⟨z :: ys, by rw [e2]; rfl, by rw [List.map_cons, e3], by
        intro y hy
        rcases List.mem_cons.mp hy with q | q
        · rw [q]; exact h
        · exact e4 y q⟩
    | _ => simp [strsV] at e
theorem all_inl : ∀ {js : List Key}, (∀ k ∈ js, ∃ i, k = .inl i) → ∃ ms : List Int, js = ms.map Sum.inl
  | [], _ => ⟨[], rfl⟩
  | k :: js, h => by
    obtain ⟨i, rfl⟩ := h k List.mem_cons_self
    obtain ⟨ms, rfl⟩ := all_inl fun j hj => h j (List.mem_cons_of_mem _ hj)
    exact ⟨i :: ms, rfl⟩
theorem all_inr : ∀ {js : List Key}, (∀ k ∈ js, ∃ i, k = .inr i) → ∃ ms : List Str, js = ms.map Sum.inr
  | [], _ => ⟨[], rfl⟩
  | k :: js, h => by
    obtain ⟨i, rfl⟩ := h k List.mem_cons_self
    obtain ⟨ms, rfl⟩ := all_inr fun j hj => h j (List.mem_cons_of_mem _ hj)
    exact ⟨i :: ms, rfl⟩
theorem nodup_of_map {α β : Type} {f : α → β} {l : List α} (h : (l.map f).Nodup) : l.Nodup := by
  unfold List.Nodup at *
  rw [List.pairwise_map] at h
  exact h.imp fun q e => q (by rw [e])
theorem nodup_map {α β : Type} {f : α → β} (hf : ∀ a b, f a = f b → a = b) {l : List α} (h : l.Nodup) : (l.map f).Nodup := by
  unfold List.Nodup at *
  rw [List.pairwise_map]
  exact h.imp fun q e => q (hf _ _ e)
theorem cps_inj (a b : Str) (h : a.cps.toList = b.cps.toList) : a = b := by rw [← str_eq a, h, str_eq b]
theorem ss_reps {K : W.Frag} {w : Wd} {xs : List PV} {us : List V} {v : PV} (r : Reps K w xs us) (e : ssL xs = some v) :
    ∃ ks : List Key, us = ks.map kV ∧ Like ks ∧ ks.length + 1 < 4096 ∧ ∀ js : List Key, js.Nodup → (∀ k, k ∈ js ↔ k ∈ ks) → ∃ vs, v = .lst vs ∧ Reps K w vs ((js.mergeSort (W.dataLe false encK)).map kV) := by
  unfold ssL at e
  split at e
  case isFalse => cases e
  rename_i hz
  split at e
  · rename_i ns e1
    simp only [Option.some.injEq] at e
    subst e
    have eu := r.ints e1
    have hl := r.length
    refine ⟨ns.map Sum.inl, by rw [kV_ints]; exact eu, .inl fun k hk => ?_, ?_, fun js nd me => ?_⟩
    · obtain ⟨i, _, rfl⟩ := List.mem_map.mp hk
      exact ⟨i, rfl⟩
    · rw [eu, List.length_map] at hl
      rw [List.length_map, ← hl]; exact hz
    · obtain ⟨ms, rfl⟩ := all_inl (js := js) fun k hk => by
        obtain ⟨i, _, rfl⟩ := List.mem_map.mp ((me k).1 hk)
        exact ⟨i, rfl⟩
      have pm : ms.Perm (ddL ns) := (List.perm_ext_iff_of_nodup (nodup_of_map nd) (ddL_nodup ns)).mpr fun i => by
        rw [ddL_mem]
        have := me (.inl i)
        simpa using this
      refine ⟨_, rfl, ?_⟩
      rw [sort_ints, ms_int pm, kV_ints]
      exact reps_ints _
  · simp only [Option.map_eq_some_iff] at e
    obtain ⟨ts, e1, rfl⟩ := e
    obtain ⟨ys, eu, e2, e3⟩ := reps_strs r e1
    have hl := r.length
    refine ⟨ys.map Sum.inr, by rw [kV_strs]; exact eu, .inr fun k hk => ?_, ?_, fun js nd me => ?_⟩
    · obtain ⟨i, _, rfl⟩ := List.mem_map.mp hk
      exact ⟨i, rfl⟩
    · rw [eu, List.length_map] at hl
      rw [List.length_map, ← hl]; exact hz
    · obtain ⟨zs, rfl⟩ := all_inr (js := js) fun k hk => by
        obtain ⟨i, _, rfl⟩ := List.mem_map.mp ((me k).1 hk)
        exact ⟨i, rfl⟩
      have mz : ∀ z, z ∈ zs ↔ z ∈ ys := fun z => by
        have := me (.inr z)
        simpa using this
      have pm : (zs.map fun z => z.cps.toList).Perm (ddL ts) := (List.perm_ext_iff_of_nodup (nodup_map cps_inj (nodup_of_map nd)) (ddL_nodup ts)).mpr fun t => by
        rw [ddL_mem, ← e2, List.mem_map, List.mem_map]
        exact ⟨fun ⟨z, h1, h2⟩ => ⟨z, (mz z).1 h1, h2⟩, fun ⟨z, h1, h2⟩ => ⟨z, (mz z).2 h1, h2⟩⟩
      refine ⟨_, rfl, ?_⟩
      rw [← ms_str pm, ← sort_strs]
      refine reps_of fun k hk => ?_
      have hk' := (List.mergeSort_perm _ _).mem_iff.mp hk
      obtain ⟨z, hz', rfl⟩ := List.mem_map.mp hk'
      exact .str z (e3 z ((mz z).1 hz'))
end PL

/-! PL5: calls, built-ins, what is walked, targets, comprehensions. -/
namespace PL
open PySem L2

/-- the promise of the i-th def -/
noncomputable def spF (K : PySem.W.Frag) (cl : Nat → Value) (cf : CF) (n i : Nat) : Sp := fun vs H Q E => vs.length = n ∧ ∃ (w : Wd) (st : Sto) (args : List PV), w.H = H ∧ StOk K w st ∧ Reps K w args vs ∧ RdR K cl E (Rep K) w (cf i args st) Q
noncomputable def PXs.len : PXs → Nat
  | .nil => 0
  | .cons _ r => r.len + 1
theorem evs_len {cf : CF} {e : Env} : ∀ {ps : PXs} {st st' : Sto} {vs : List PV}, evs cf ps e st = .ok vs st' → vs.length = ps.len
  | .nil, st, st', vs, h => by simp only [evs, Res.ok.injEq] at h; rw [← h.1]; rfl
  | .cons a r, st, st', vs, h => by
    simp only [evs] at h
    cases q : ev cf a e st with
    | ok x st1 =>
      rw [q, Res.bind_ok] at h
      cases q2 : evs cf r e st1 with
      | ok xs st2 =>
        rw [q2, Res.bind_ok, Res.ok.injEq] at h
        rw [← h.1, List.length_cons, evs_len q2]; rfl
      | exc c st2 => rw [q2, Res.bind_exc] at h; cases h
      | stuck => rw [q2, Res.bind_stuck] at h; cases h
    | exc c st1 => rw [q, Res.bind_exc] at h; cases h
    | stuck => rw [q, Res.bind_stuck] at h; cases h
/-- what the evaluator says, kept in hand -/
theorem RdR.bindE {α β γ δ : Type} {K : PySem.W.Frag} {cl : Nat → Value} {E : XK} {R : Wd → α → β → Prop} {R' : Wd → γ → δ → Prop} {w : Wd} {r : Res α} {f : α → Sto → Res γ} {Q : δ → Hp → Prop} (h : RdR K cl E R' w (r.bind f) Q) :
    RdR K cl E R w r (fun b H => ∃ (w' : Wd) (a : α) (st : Sto), r = .ok a st ∧ w'.H = H ∧ w.le w' ∧ StOk K w' st ∧ R w' a b ∧ RdR K cl E R' w' (f a st) Q) := by
  cases r with
  | ok a st =>
    intro w' b h1 h2 h3
    obtain ⟨w2, a2, st2, e, g1, g2, g3, g4⟩ := (RdR.bind (R := R) h) w' b h1 h2 h3
    refine ⟨w', a, st, rfl, rfl, h1, h2, h3, ?_⟩
    rw [Res.bind_ok] at h
    cases q : f a st with
    | ok c st2 => rw [q] at h; exact fun w2 d g1 g2 g3 => h w2 d (h1.trans g1) g2 g3
    | exc c st2 => rw [q] at h; exact fun w2 g1 g2 => h w2 (h1.trans g1) g2
    | stuck => rw [q] at h; exact h
  | exc c st => exact h
  | stuck => exact h

section
variable {X : Cx} {cl : Nat → Value} {W : WX} {cf : CF} {pos p : Pos} {a b c : Expr} {pa pb pc : PX} {k : Nat}

theorem x_call {f : Addr} {fd : FuncData} {ps : List Str} {i : Nat} {x : Str} {es : List Expr} {qs : PXs} (F : FnOk X.prog X.w X.K X.mg X.base (L2.CX X.prog X.w) k f fd ps (spF X.K cl cf ps.length i)) (hr : Room k X.A)
    (hg : Gl X x) (hm : X.mg x = some (.ref f)) (hk : PySem.W.keepIn X.K (.ref f) = true) (hb : Binds X.K fd ps []) (tk : Takes X W) (hl : qs.len = ps.length)
    (ha : L2.PA X (a :: es) (rdA X.K cl W cf qs)) (hdb : (x == ("__debug__" : Str)) = false) (he : starEach (a :: es) X.env = (false, eval a X.env) :: starEach es X.env) (hpl : (backTo pos (starEach es X.env)).any (·.1) = false) :
    L2.PE X (.Call (.Name x p) (a :: es) [] pos) (rdE X.K cl W cf (.call i qs)) := by
  refine PEimp (pe_callSD (E := WE W) F hr hg hm hk hb .nil (fun σ => passAt tk σ) ha hdb he hpl) fun σ H Q h => ?_
  obtain ⟨w, e, st, rfl, he, hs, h⟩ := h
  simp only [ev] at h
  refine ⟨w, e, st, rfl, he, hs, h.bindE.mono fun xs H1 hQ => ?_⟩
  obtain ⟨w1, v1, st1, e0, e1, hw1, hs1, r1, h1⟩ := hQ
  subst e1
  rw [List.append_nil]
  exact ⟨by rw [← r1.length, evs_len e0, hl], w1, st1, v1, rfl, hs1, r1, h1⟩
theorem x_call0 {f : Addr} {fd : FuncData} {i : Nat} {x : Str} (F : FnOk X.prog X.w X.K X.mg X.base (L2.CX X.prog X.w) k f fd [] (spF X.K cl cf 0 i)) (hr : Room k X.A)
    (hg : Gl X x) (hm : X.mg x = some (.ref f)) (hk : PySem.W.keepIn X.K (.ref f) = true) (hb : Binds X.K fd [] []) (tk : Takes X W) (hdb : (x == ("__debug__" : Str)) = false) :
    L2.PE X (.Call (.Name x p) [] [] pos) (rdE X.K cl W cf (.call i .nil)) := by
  refine ⟨fun pins s σ H Q I h => ?_⟩
  refine wpAny_Call_Name_kw (ld_glob I hg hm ?_ hdb)
  refine PySem.W.callWith_K0 I.kIn hk ?_
  obtain ⟨w, e, st, rfl, he, hs, h⟩ := h
  simp only [ev, evs, Res.bind_ok] at h
  exact run_fnSD (E := WE W) (us := []) (vs := []) (dvs := []) (ds := []) F hr hb .nil (passAt tk σ) I .nil ⟨rfl, w, st, [], rfl, hs, .nil, h⟩

/-! ### built-ins -/
noncomputable def RVs (K : PySem.W.Frag) (f : List PV → Option PV) : List V → Hp → VK → Prop := fun xs H Q => ∃ (w : Wd) (st : Sto) (as : List PV) (v : PV), w.H = H ∧ StOk K w st ∧ RepsW K w as xs ∧ f as = some v ∧ Gets K w v st Q
theorem Reps.one {K : PySem.W.Frag} {w : Wd} {v : PV} {us : List V} (h : Reps K w [v] us) : ∃ u, us = [u] ∧ Rep K w v u := by
  cases h with
  | cons h r => cases r; exact ⟨_, rfl, h⟩
theorem Reps.two {K : PySem.W.Frag} {w : Wd} {v v' : PV} {us : List V} (h : Reps K w [v, v'] us) : ∃ u u', us = [u, u'] ∧ Rep K w v u ∧ Rep K w v' u' := by
  cases h with
  | cons h r =>
    obtain ⟨u', rfl, h'⟩ := r.one
    exact ⟨_, u', rfl, h, h'⟩
theorem RepsW.one {K : PySem.W.Frag} {w : Wd} {v : PV} {us : List V} (h : RepsW K w [v] us) : ∃ u, us = [u] ∧ RepW K w v u := by
  cases h with
  | cons h r => cases r; exact ⟨_, rfl, h⟩
theorem RepsW.two {K : PySem.W.Frag} {w : Wd} {v v' : PV} {us : List V} (h : RepsW K w [v, v'] us) : ∃ u u', us = [u, u'] ∧ RepW K w v u ∧ RepW K w v' u' := by
  cases h with
  | cons h r =>
    obtain ⟨u', rfl, h'⟩ := r.one
    exact ⟨_, u', rfl, h, h'⟩
theorem foldl_max_mem : ∀ (ns : List Int) (i : Int), ns.foldl max i ∈ i :: ns
  | [], i => by simp
  | j :: r, i => by
    rw [List.foldl_cons]
    have := foldl_max_mem r (max i j)
    rcases List.mem_cons.mp this with e | e
    · rw [e]
      by_cases h : i ≤ j
      · rw [Int.max_eq_right h]; simp
      · rw [Int.max_eq_left (by omega)]; simp
    · exact List.mem_cons_of_mem _ (List.mem_cons_of_mem _ e)
theorem foldl_max_le : ∀ (ns : List Int) (i : Int), ∀ y ∈ i :: ns, y ≤ ns.foldl max i
  | [], i => by simp
  | j :: r, i => fun y hy => by
    rw [List.foldl_cons]
    have h := foldl_max_le r (max i j)
    have h0 := h (max i j) (by simp)
    rcases List.mem_cons.mp hy with e | e
    · subst e; omega
    · rcases List.mem_cons.mp e with e | e
      · subst e; omega
      · exact h y (List.mem_cons_of_mem _ e)
theorem foldl_min_mem : ∀ (ns : List Int) (i : Int), ns.foldl min i ∈ i :: ns
  | [], i => by simp
  | j :: r, i => by
    rw [List.foldl_cons]
    have := foldl_min_mem r (min i j)
    rcases List.mem_cons.mp this with e | e
    · rw [e]
      by_cases h : i ≤ j
      · rw [Int.min_eq_left h]; simp
      · rw [Int.min_eq_right (by omega)]; simp
    · exact List.mem_cons_of_mem _ (List.mem_cons_of_mem _ e)
theorem foldl_min_le : ∀ (ns : List Int) (i : Int), ∀ y ∈ i :: ns, ns.foldl min i ≤ y
  | [], i => by simp
  | j :: r, i => fun y hy => by
    rw [List.foldl_cons]
    have h := foldl_min_le r (min i j)
    have h0 := h (min i j) (by simp)
    rcases List.mem_cons.mp hy with e | e
    · subst e; omega
    · rcases List.mem_cons.mp e with e | e
      · subst e; omega
      · exact h y (List.mem_cons_of_mem _ e)
theorem c_len : CallR X (.builtin "len") (RVs X.K (biV .len)) := by
  intro pins s σ H xs us Q I r h
  obtain ⟨w, st, as, v, rfl, ok, ra, e, g⟩ := h
  simp only [biV] at e
  unfold bLen at e
  split at e
  all_goals try contradiction
  rename_i a
  obtain ⟨u, rfl, ru⟩ := ra.one
  have fin : ∀ n : Nat, lenV a = some (.int n) → LenV X.K u w.H n → wpAny (model X.prog X.w) X.A (call (.builtin "len") us) (EP X pins σ Q) X.xe s := fun n e1 hl => by
    rw [e1] at e
    cases e
    exact call_len pins s σ w.H _ us Q I r ⟨u, n, rfl, hl, g.same ok (.int _)⟩
  rcases ru with ru | ⟨_, _, _, rfl, rfl, h, q⟩
  case inr => exact fin _ rfl (.inl ⟨_, SqL.of h, q.length⟩)
  cases ru with
  | str z hz => exact fin _ rfl ⟨hz, by rw [len_eq]⟩
  | tup h q => exact fin _ rfl (.inr ⟨_, h.sq, q.length⟩)
  | lst h n q => exact fin _ rfl (.inl ⟨_, SqL.of h, q.length⟩)
  | scr h => exact fin _ rfl (.inl ⟨_, h.sq, by simp⟩)
  | _ => simp [lenV] at e
theorem c_max1 (hc : X.calm = true) : CallR X (.builtin "max") (RVs X.K (biV .max1)) := by
  intro pins s σ H xs us Q I r h
  obtain ⟨w, st, as, v, rfl, ok, ra, e, g⟩ := h
  simp only [biV] at e
  unfold bMax1 at e
  split at e
  all_goals try contradiction
  rename_i ys
  obtain ⟨u, rfl, ru⟩ := ra.one
  obtain ⟨a1, us1, rfl, h1, r1⟩ := ru.lst_inv
  cases q : intsV ys with
  | none => rw [q] at e; cases e
  | some ns =>
    rw [q] at e
    simp only [Option.bind_some, Option.map_eq_some_iff] at e
    obtain ⟨m, e, rfl⟩ := e
    have hv := r1.ints q
    subst hv
    cases ns with
    | nil => cases e
    | cons i ns =>
      simp only [maxI, Option.some.injEq] at e
      subst e
      refine cr_max hc pins s σ w.H _ us Q I r ⟨a1, i :: ns, rfl, SqL.of h1, by simp, fun m hm hle => ?_⟩
      have e1 : m = ns.foldl max i := Int.le_antisymm (foldl_max_le ns i m hm) (hle _ (foldl_max_mem ns i))
      rw [e1]
      exact g.same ok (.int _)
mutual
theorem PV.toD_inj : ∀ (a b : PV), a.isData = true → b.isData = true → a.toD = b.toD → a = b
  | .non, b, _, h, e => by cases b <;> simp_all [PV.toD, PV.isData]
  | .bl _, b, _, h, e => by cases b <;> simp_all [PV.toD, PV.isData]
  | .int _, b, _, h, e => by cases b <;> simp_all [PV.toD, PV.isData]
  | .str _, b, _, h, e => by cases b <;> simp_all [PV.toD, PV.isData]
  | .scr _, b, h, _, e => by simp [PV.isData] at h
  | .ref _, b, h, _, e => by simp [PV.isData] at h
  | .tup xs, b, ha, h, e => by
    cases b with
    | tup ys =>
      simp only [PV.toD, PyData.tuple.injEq] at e
      simp only [PV.isData] at ha h
      rw [PV.toDs_inj xs ys ha h e]
    | _ => simp [PV.toD, PV.isData] at e h
  | .lst xs, b, ha, h, e => by
    cases b with
    | lst ys =>
      simp only [PV.toD, PyData.list.injEq] at e
      simp only [PV.isData] at ha h
      rw [PV.toDs_inj xs ys ha h e]
    | _ => simp [PV.toD, PV.isData] at e h
theorem PV.toDs_inj : ∀ (a b : List PV), PV.areData a = true → PV.areData b = true → PV.toDs a = PV.toDs b → a = b
  | [], [], _, _, _ => rfl
  | [], _ :: _, _, _, e => by simp [PV.toDs] at e
  | _ :: _, [], _, _, e => by simp [PV.toDs] at e
  | x :: xs, y :: ys, ha, hb, e => by
    simp only [PV.toDs, List.cons.injEq] at e
    simp only [PV.areData, Bool.and_eq_true] at ha hb
    rw [PV.toD_inj x y ha.1 hb.1 e.1, PV.toDs_inj xs ys ha.2 hb.2 e.2]
end
theorem toDs_map : ∀ xs : List PV, PV.toDs xs = xs.map PV.toD
  | [] => by simp [PV.toDs]
  | x :: r => by simp [PV.toDs, toDs_map r]
theorem areData_iff : ∀ {xs : List PV}, PV.areData xs = true ↔ ∀ x ∈ xs, x.isData = true
  | [] => by simp [PV.areData]
  | x :: r => by simp [PV.areData, areData_iff (xs := r)]
theorem minV_fold : ∀ (xs : List PV) (x : PV), (xs.foldl (fun a y => if PySem.W.dataLt y.toD a.toD then y else a) x).toD = (PV.toDs xs).foldl (fun a y => if PySem.W.dataLt y a then y else a) x.toD ∧ xs.foldl (fun a y => if PySem.W.dataLt y.toD a.toD then y else a) x ∈ x :: xs
  | [], x => by simp [PV.toDs]
  | y :: r, x => by
    have ih := minV_fold r (if PySem.W.dataLt y.toD x.toD then y else x)
    simp only [List.foldl_cons, PV.toDs]
    refine ⟨?_, ?_⟩
    · rw [ih.1]
      congr 1
      split <;> rfl
    · rcases List.mem_cons.mp ih.2 with z | z
      · rw [z]
        split
        · simp
        · simp
      · exact List.mem_cons_of_mem _ (List.mem_cons_of_mem _ z)
theorem toD_none {x : PV} (h : x.isData = true) (e : x.toD = .none) : x = .non := by cases x <;> simp [PV.toD, PV.isData] at e h ⊢
theorem c_min1 (hc : X.calm = true) (hu : X.A.units + 64 < cLine) : CallR X (.builtin "min") (RVs X.K (biV .min1)) := by
  intro pins s σ H xs us Q I r h
  obtain ⟨w, st, as, v, rfl, ok, ra, e, g⟩ := h
  simp only [biV] at e
  unfold bMin1 at e
  split at e
  all_goals try contradiction
  rename_i ys
  obtain ⟨u, rfl, ru⟩ := ra.one
  obtain ⟨a1, us1, rfl, h1, r1⟩ := ru.lst_inv
  cases q : intsV ys with
  | none =>
    rw [q] at e
    simp only at e
    cases ys with
    | nil => simp [minV] at e
    | cons y ys =>
      simp only [minV, Option.ite_none_right_eq_some, Option.some.injEq, ordOk, Bool.and_eq_true, decide_eq_true_eq, List.all_eq_true] at e
      obtain ⟨⟨⟨⟨hd, hdep⟩, hal⟩, hnn⟩, rfl⟩ := e
      obtain ⟨its, rv, hl, _⟩ := I.list (SqL.of h1)
      obtain ⟨bs0, hr⟩ := Dp.readsAll I _ _ _ (r1.dp hd) rv
      rw [Vals.ref1 r]
      have hfold := minV_fold ys y
      have hda := areData_iff.mp hd
      have hal2 : PySem.W.AlikeAll (PV.toDs (y :: ys)) := ⟨hal, fun d hd' z => by
        rw [toDs_map] at hd'
        obtain ⟨x, hx, e⟩ := List.mem_map.mp hd'
        have := hnn x hx
        have e2 := toD_none (hda x hx) (e.trans z)
        subst e2
        simp at this⟩
      refine PySem.W.min_list_data (x := y.toD) (xs := PV.toDs ys) (I.ok.hd hc) hl.isList (by simpa [PV.toDs] using hr) (by simpa [PV.toDs] using hal2) (by simp only [PV.toDs] at hdep; omega) fun i v h' tk bs hv hrd hk => ?_
      have hi : i < its.length := by
        rw [List.getElem?_toArray] at hv
        exact (List.getElem?_eq_some_iff.mp hv).1
      have hlen := rv.length
      obtain ⟨yv, hyv⟩ : ∃ yv, (y :: ys)[i]? = some yv := ⟨_, List.getElem?_eq_getElem (by rw [r1.length, hlen]; exact hi)⟩
      obtain ⟨u2, hu2, ru2⟩ := r1.get hyv
      obtain ⟨v2, hv2, rv2⟩ := rv.get hu2
      rw [List.getElem?_toArray] at hv
      rw [hv] at hv2
      cases hv2
      have hyd := hda yv (List.mem_of_getElem? hyv)
      obtain ⟨cs, hrv⟩ := Dp.reads I _ _ _ (ru2.dp hyd) rv2
      have hmem : yv.toD ∈ PV.toDs (y :: ys) := by rw [toDs_map]; exact List.mem_map_of_mem (List.mem_of_getElem? hyv)
      have hmem2 : PySem.W.minD y.toD (PV.toDs ys) ∈ PV.toDs (y :: ys) := by
        have e1 := hfold.1
        unfold PySem.W.minD
        rw [← e1, toDs_map]
        exact List.mem_map_of_mem hfold.2
      have heq := PySem.W.alike_unique _ _ _ _ _ (hal _ hmem2 _ hmem) hrd (PySem.W.reads_keeps hk hrv)
      have hfin : ys.foldl (fun a y => if PySem.W.dataLt y.toD a.toD then y else a) y = yv := by
        refine PV.toD_inj _ _ (hda _ hfold.2) hyd ?_
        rw [hfold.1]; exact heq
      rw [hfin] at g
      exact ⟨u2, w.H, I.kept hk, rv2, g.same ok ru2⟩
  | some ns =>
    rw [q] at e
    simp only [Option.map_eq_some_iff] at e
    obtain ⟨m, e, rfl⟩ := e
    have hv := r1.ints q
    subst hv
    cases ns with
    | nil => cases e
    | cons i ns =>
      simp only [minI, Option.some.injEq] at e
      subst e
      refine cr_min hc pins s σ w.H _ us Q I r ⟨a1, i :: ns, rfl, SqL.of h1, by simp, fun m hm hle => ?_⟩
      have e1 : m = ns.foldl min i := Int.le_antisymm (hle _ (foldl_min_mem ns i)) (foldl_min_le ns i m hm)
      rw [e1]
      exact g.same ok (.int _)
theorem c_max2 (hc : X.calm = true) : CallR X (.builtin "max") (RVs X.K (biV .max2)) := by
  intro pins s σ H xs us Q I r h
  obtain ⟨w, st, as, v, rfl, ok, ra, e, g⟩ := h
  simp only [biV] at e
  unfold bMax2 at e
  split at e
  all_goals try contradiction
  cases e
  obtain ⟨u, u', rfl, r1, r2⟩ := ra.two
  cases r1.int_inv; cases r2.int_inv
  exact call_max2 hc pins s σ w.H _ us Q I r ⟨_, _, rfl, g.same ok (.int _)⟩
theorem c_min2 (hc : X.calm = true) : CallR X (.builtin "min") (RVs X.K (biV .min2)) := by
  intro pins s σ H xs us Q I r h
  obtain ⟨w, st, as, v, rfl, ok, ra, e, g⟩ := h
  simp only [biV] at e
  unfold bMin2 at e
  split at e
  all_goals try contradiction
  cases e
  obtain ⟨u, u', rfl, r1, r2⟩ := ra.two
  cases r1.int_inv; cases r2.int_inv
  exact call_min2 hc pins s σ w.H _ us Q I r ⟨_, _, rfl, g.same ok (.int _)⟩
theorem sumT_raw {prog : PySem.Program} {w : PySem.World} {A : PySem.Around} {E : PySem.Value → PySem.Shared → Prop} {s : PySem.Shared} {l : Addr} {its : List PySem.Value} {ns : List Int} {Q : PySem.Value → PySem.Shared → Prop} (hh : A.handled = none) (hl : s.heap.IsTuple l its.toArray) (hi : PyProof.Rows.IntsAre its ns)
    (h : ∀ h' tk t', (∀ b o, s.heap.get? b = some o → h'.get? b = some o) → Q (.int ns.sum t') { s with heap := h', toks := tk }) : wpAny (model prog w) A (call (.builtin "sum") [.ref l]) Q E s := by
  obtain ⟨xs, e⟩ := hi.allInts.items
  have hn : numsOf (intItems xs).toList = ns := by rw [← e]; exact hi.numsOf
  rw [PySem.nums_intItems] at hn
  rw [e] at hl
  refine PySem.W.ktm_sumG hh hl fun h' tk t' hk => ?_
  have := h h' tk t' hk
  rw [preSum_eq, List.take_of_length_le (by simp), hn]; exact this
theorem c_sum (hc : X.calm = true) : CallR X (.builtin "sum") (RVs X.K (biV .sum)) := by
  intro pins s σ H xs us Q I r h
  obtain ⟨w, st, as, v, rfl, ok, ra, e, g⟩ := h
  simp only [biV] at e
  unfold bSum at e
  split at e
  all_goals try contradiction
  · rename_i ys
    obtain ⟨u, rfl, ru⟩ := ra.one
    obtain ⟨a1, us1, rfl, h1, r1⟩ := ru.lst_inv
    rw [Option.map_eq_some_iff] at e
    obtain ⟨ns, q, rfl⟩ := e
    have hv := r1.ints q
    subst hv
    exact cr_sum hc pins s σ w.H _ us Q I r ⟨a1, ns, rfl, SqL.of h1, g.same ok (.int _)⟩
  · rename_i ys
    obtain ⟨u, rfl, ru⟩ := ra.one
    obtain ⟨a1, us1, rfl, h1, r1⟩ := ru.tup_inv
    rw [Option.map_eq_some_iff] at e
    obtain ⟨ns, q, rfl⟩ := e
    have hv := r1.ints q
    subst hv
    obtain ⟨its, rv, hl, _⟩ := I.tuple h1.sq
    rw [Vals.ref1 r]
    exact sumT_raw (I.ok.hd hc) hl rv.ints fun h' tk t' hk => ⟨.int _, w.H, I.kept hk, ⟨_, rfl⟩, g.same ok (.int _)⟩
theorem c_all (hc : X.calm = true) : CallR X (.builtin "all") (RVs X.K (biV .all)) := by
  intro pins s σ H xs us Q I r h
  obtain ⟨w, st, as, v, rfl, ok, ra, e, g⟩ := h
  simp only [biV] at e
  unfold bAll at e
  split at e
  all_goals try contradiction
  rename_i ys
  obtain ⟨u, rfl, ru⟩ := ra.one
  obtain ⟨a1, us1, rfl, h1, r1⟩ := ru.lst_inv
  rw [Option.map_eq_some_iff] at e
  obtain ⟨ns, q, rfl⟩ := e
  have hv := r1.bls q
  subst hv
  exact cr_all hc pins s σ w.H _ us Q I r ⟨a1, ns, rfl, SqL.of h1, g.same ok (.bl _)⟩
theorem c_any (hc : X.calm = true) : CallR X (.builtin "any") (RVs X.K (biV .any)) := by
  intro pins s σ H xs us Q I r h
  obtain ⟨w, st, as, v, rfl, ok, ra, e, g⟩ := h
  simp only [biV] at e
  unfold bAny at e
  split at e
  all_goals try contradiction
  rename_i ys
  obtain ⟨u, rfl, ru⟩ := ra.one
  obtain ⟨a1, us1, rfl, h1, r1⟩ := ru.lst_inv
  rw [Option.map_eq_some_iff] at e
  obtain ⟨ns, q, rfl⟩ := e
  have hv := r1.bls q
  subst hv
  exact cr_any hc pins s σ w.H _ us Q I r ⟨a1, ns, rfl, SqL.of h1, g.same ok (.bl _)⟩
/-- tuple(text) -/
theorem call_tuple_txt (hc : X.calm = true) : CallR X (.type "tuple") (fun xs H Q => ∃ z : Str, xs = [.str z] ∧ z.length ≤ sizeLine ∧ ∀ l, H l = none → Q (.ref l) (upd H l (.tup (z.cps.toList.map fun c => .str ⟨#[c]⟩)))) := by
  intro pins s σ H xs us Q I r h
  obtain ⟨z, rfl, hz, q⟩ := h
  obtain ⟨u, rfl, rx⟩ := vals1 r
  obtain ⟨t, rfl⟩ := rx
  refine PySem.call_tuple_str (hsz := hz) (I.ok.hd hc) z t fun h' tk acc kp hacc => ?_
  have I1 : Inv X pins σ H { s with heap := h', toks := tk } := I.kept (t' := tk) kp
  have hv : Vals (z.cps.toList.map fun c => V.str ⟨#[c]⟩) acc.toList := by
    have key : ∀ (cs : List Nat) (vs : List Value), vs.length = cs.length → (∀ (j : Nat) (c : Nat) (v : Value), cs[j]? = some c → vs[j]? = some v → ∃ u, v = .str ⟨#[c]⟩ u) → Vals (cs.map fun c => V.str ⟨#[c]⟩) vs := by
      intro cs
      induction cs with
      | nil => intro vs hl _; cases vs with | nil => exact .nil | cons _ _ => simp at hl
      | cons c cs ih =>
        intro vs hl hh
        cases vs with
        | nil => simp at hl
        | cons v vs =>
          refine .cons ?_ (ih vs (by simpa using hl) fun j c v h1 h2 => hh (j + 1) c v (by simpa using h1) (by simpa using h2))
          obtain ⟨u, rfl⟩ := hh 0 c v rfl rfl
          exact ⟨u, rfl⟩
    refine key _ _ (by simp [hacc.1]) fun j c v h1 h2 => ?_
    obtain ⟨c', u, hc', rfl⟩ := hacc.2 j v (by simpa using h2)
    have : c' = c := by
      have e : z.cps[j]? = some c := by simpa using h1
      rw [hc'] at e
      exact Option.some.inj e
    subst this
    exact ⟨u, rfl⟩
  have hlen : (z.cps.toList.map fun c => V.str ⟨#[c]⟩).length ≤ sizeLine := by rw [List.length_map, Array.length_toList]; exact hz
  have I2 : Inv X pins σ (upd H h'.objs.size (.tup (z.cps.toList.map fun c => .str ⟨#[c]⟩))) { s with heap := h'.push { cls := .type "tuple", data := .seq acc }, toks := tk } :=
    I1.laid (t' := tk) (fun b o e => Heap.get?_push_of_some _ e) (Nat.le_refl _) (show ObjOk X.prog X.w _ _ _ (.tup _) from ⟨hlen, acc.toList, hv, by simpa using PyProof.Rows.IsTup.new _ acc⟩)
  exact ⟨.ref h'.objs.size, _, I2, rfl, q _ (I1.hok.fresh (Nat.le_refl _))⟩
theorem reps_chars {K : PySem.W.Frag} {w : Wd} : ∀ cs : List Nat, Reps K w (cs.map fun c => PV.str [c]) (cs.map fun c => V.str ⟨#[c]⟩)
  | [] => .nil
  | c :: cs => .cons (.str ⟨#[c]⟩ (by show 1 ≤ sizeLine; decide)) (reps_chars cs)
theorem c_tuple (hc : X.calm = true) : CallR X (.type "tuple") (RVs X.K (biV .tuple)) := by
  intro pins s σ H xs us Q I r h
  obtain ⟨w, st, as, v, rfl, ok, ra, e, g⟩ := h
  simp only [biV] at e
  unfold bTuple at e
  split at e
  all_goals try contradiction
  · cases e
    obtain ⟨u, rfl, ru⟩ := ra.one
    obtain ⟨a1, us1, rfl, h1, r1⟩ := ru.lst_inv
    exact call_tuple_of pins s σ w.H _ us Q I r ⟨a1, us1, rfl, .inl ⟨SqL.of h1, fun p hp => g.tup ok r1 hp⟩⟩
  · cases e
    obtain ⟨u, rfl, ru⟩ := ra.one
    obtain ⟨a1, us1, rfl, h1, r1⟩ := id ru.tup_inv
    exact call_tuple_of pins s σ w.H _ us Q I r ⟨a1, us1, rfl, .inr ⟨h1.sq, g.same ok ru.tup_rep⟩⟩
  · rename_i s'
    split at e
    · rename_i hz
      cases e
      obtain ⟨u, rfl, ru⟩ := ra.one
      obtain ⟨z, rfl, rfl, hzl⟩ := ru.str_inv
      exact call_tuple_txt hc pins s σ w.H _ us Q I r ⟨z, rfl, hzl, fun p hp => g.tup ok (reps_chars _) hp⟩
    · cases e
theorem c_list : CallR X (.type "list") (RVs X.K (biV .list)) := by
  intro pins s σ H xs us Q I r h
  obtain ⟨w, st, as, v, rfl, ok, ra, e, g⟩ := h
  simp only [biV] at e
  unfold bList at e
  split at e
  all_goals try contradiction
  · cases e
    obtain ⟨u, rfl, ru⟩ := ra.one
    obtain ⟨a1, us1, rfl, h1, r1⟩ := ru.lst_inv
    exact call_list_of pins s σ w.H _ us Q I r ⟨a1, us1, rfl, .inl (SqL.of h1), fun p hp => g.lst ok r1 hp⟩
  · cases e
    obtain ⟨u, rfl, ru⟩ := ra.one
    obtain ⟨a1, us1, rfl, h1, r1⟩ := id ru.tup_inv
    exact call_list_of pins s σ w.H _ us Q I r ⟨a1, us1, rfl, .inr h1.sq, fun p hp => g.lst ok r1 hp⟩
theorem c_int : CallR X (.type "int") (RVs X.K (biV .int)) := by
  intro pins s σ H xs us Q I r h
  obtain ⟨w, st, as, v, rfl, ok, ra, e, g⟩ := h
  simp only [biV] at e
  unfold bInt at e
  split at e
  all_goals try contradiction
  · cases e
    obtain ⟨u, rfl, ru⟩ := ra.one
    cases ru.int_inv
    exact call_int1 pins s σ w.H _ us Q I r (.inl ⟨_, rfl, g.same ok (.int _)⟩)
  · cases e
    obtain ⟨u, rfl, ru⟩ := ra.one
    cases ru.bl_inv
    exact call_int1 pins s σ w.H _ us Q I r (.inr ⟨_, rfl, g.same ok (.int _)⟩)
theorem each_vals {K : PySem.W.Frag} {w : Wd} : ∀ {ys : List PV} {us : List V} {its : List Value}, Reps K w ys us → Vals us its → PySem.W.EachIs (fun v y => ∃ u, Rep K w y u ∧ RelV u v) its ys
  | _, _, _, .nil, .nil => .nil
  | _, _, _, .cons h r, .cons q t => .cons ⟨_, h, q⟩ (each_vals r t)
theorem vals_each {K : PySem.W.Frag} {w : Wd} : ∀ {ys : List PV} {its : List Value}, PySem.W.EachIs (fun v y => ∃ u, Rep K w y u ∧ RelV u v) its ys → ∃ us, Reps K w ys us ∧ Vals us its
  | _, _, .nil => ⟨[], .nil, .nil⟩
  | _, _, .cons ⟨u, h, q⟩ t => by
    obtain ⟨us, h2, q2⟩ := vals_each t
    exact ⟨u :: us, .cons h h2, .cons q q2⟩
theorem each_with {α β : Type} {R : α → β → Prop} : ∀ {as : List α} {bs : List β}, PySem.W.EachIs R as bs → PySem.W.EachIs (fun a b => R a b ∧ b ∈ bs) as bs
  | _, _, .nil => .nil
  | _, _, .cons h t => .cons ⟨h, by simp⟩ ((each_with t).mono fun _ _ z => ⟨z.1, by simp [z.2]⟩)
theorem c_sorted (hu : X.A.units + 64 < cLine) : CallR X (.builtin "sorted") (RVs X.K (biV .sorted)) := by
  intro pins s σ H xs us Q I r h
  obtain ⟨w, st, as, v, rfl, ok, ra, e, g⟩ := h
  simp only [biV] at e
  unfold bSorted at e
  split at e
  all_goals try contradiction
  rotate_left
  · rename_i ys
    simp only [Option.ite_none_right_eq_some, decide_eq_true_eq, Option.map_eq_some_iff] at e
    obtain ⟨hlen, ns, e1, rfl⟩ := e
    obtain ⟨u, rfl, ru⟩ := ra.one
    obtain ⟨a1, us1, rfl, h1, r1⟩ := ru.tup_inv
    obtain ⟨its, rv, hl, _⟩ := I.tuple h1.sq
    rw [Vals.ref1 r]
    have hln := r1.length
    have eu := r1.ints e1
    subst eu
    rw [List.length_map] at hln
    rw [← kV_ints] at rv
    refine SE.sorted_tup (ks := ns.map Sum.inl) hl (each_is rv) hu (.inl fun k hk => ?_) (by rw [List.length_map, ← hln, ← SZ_eq]; exact hlen) fun h2 h3 p out c k1 k2 hp hg he => ?_
    · obtain ⟨i, _, rfl⟩ := List.mem_map.mp hk
      exact ⟨i, rfl⟩
    · rw [sort_ints] at he
      have vv := is_each he
      rw [kV_ints] at vv
      have J : Inv X pins σ w.H { s with heap := h2, toks := s.toks } := I.kept k1
      have hn : w.H p = none := J.hok.fresh hp
      have g2 := Gets.lst g ok (reps_ints _) hn
      exact ⟨.ref p, upd w.H p (.lst _), J.laid (t' := s.toks) k2 hp ⟨by rw [List.length_map, List.length_mergeSort, ← hln, ← SZ_eq]; exact hlen, out, c, vv, hg⟩, rfl, g2⟩
  rename_i ys
  simp only [Option.ite_none_right_eq_some, Option.some.injEq, srtOk, Bool.and_eq_true, Bool.or_eq_true, decide_eq_true_eq, List.all_eq_true] at e
  obtain ⟨⟨⟨⟨⟨hd, hdep⟩, hal⟩, hlen⟩, hk⟩, rfl⟩ := e
  obtain ⟨u, rfl, ru⟩ := ra.one
  obtain ⟨a1, us1, rfl, h1, r1⟩ := ru.lst_inv
  obtain ⟨its, rv, hl, _⟩ := I.list (SqL.of h1)
  rw [Vals.ref1 r]
  have hda := areData_iff.mp hd
  have e1 := each_vals r1 rv
  refine PySem.W.sorted_data (enc := PV.toD) (bs := ys) hl.isList e1 ((each_with e1).mono fun v y ⟨⟨u, ru, rv⟩, hy⟩ => Dp.reads I _ _ _ (ru.dp (hda y hy)) rv) ?_ ?_ (by rw [← SZ_eq]; exact hlen) ?_ fun out hol hout => ?_
  · intro d hd d' hd'
    rw [← toDs_map] at hd hd'
    exact hal d hd d' hd'
  · rcases hk with hk | hk
    · refine .inl fun d hd' => ?_
      obtain ⟨y, hy, rfl⟩ := List.mem_map.mp hd'
      have := hk y hy
      split at this
      · rename_i z zs
        exact ⟨z.toD, PV.toDs zs, by simp only [PV.toD, PV.toDs]⟩
      · cases this
    · refine .inr fun d hd' => ?_
      obtain ⟨y, hy, rfl⟩ := List.mem_map.mp hd'
      have h2 := hk y hy
      have h3 := hda y hy
      cases y <;> simp [PV.toD, PV.isData] at h2 h3 ⊢
  · intro b hb
    have : b.toD.depth ≤ PyData.depthAll (PV.toDs ys) := PyData.depth_le_depthAll _ _ (by rw [toDs_map]; exact List.mem_map_of_mem hb)
    omega
  · obtain ⟨us2, r2, q2⟩ := vals_each hout
    obtain ⟨ep, he'⟩ := PyProof.Rows.sortedAll_at s.heap its out.toArray
    have hz : us2.length ≤ sizeLine := by
      rw [← r2.length, List.length_mergeSort, ← SZ_eq]; exact hlen
    have hn : w.H (s.heap.objs.size + 1) = none := I.hok.fresh (Nat.le_succ _)
    have g2 := Gets.lst g ok r2 hn
    exact ⟨.ref _, upd w.H (s.heap.objs.size + 1) (.lst us2), I.laid (t' := s.toks) (fun _ _ => PyProof.Rows.sortedAll_old) (Nat.le_succ _) ⟨hz, out, ep, q2, he'⟩, rfl, g2⟩
theorem c_bi (hc : X.calm = true) (hu : X.A.units + 64 < cLine) (b : Bi) : (∃ id, bootBuiltins b.name = some (.builtin id) ∧ CallR X (.builtin id) (RVs X.K (biV b))) ∨ ∃ T, bootBuiltins b.name = some (.type T) ∧ CallR X (.type T) (RVs X.K (biV b)) := by
  cases b with
  | len => exact .inl ⟨_, boot_len, c_len⟩
  | max1 => exact .inl ⟨_, PyProof.Rows.boot_max, c_max1 hc⟩
  | max2 => exact .inl ⟨_, PyProof.Rows.boot_max, c_max2 hc⟩
  | min1 => exact .inl ⟨_, PyProof.Rows.boot_min, c_min1 hc hu⟩
  | sorted => exact .inl ⟨_, PyProof.Rows.boot_sorted, c_sorted hu⟩
  | min2 => exact .inl ⟨_, PyProof.Rows.boot_min, c_min2 hc⟩
  | sum => exact .inl ⟨_, PyProof.Rows.boot_sum, c_sum hc⟩
  | all => exact .inl ⟨_, PyProof.Rows.boot_all, c_all hc⟩
  | any => exact .inl ⟨_, PyProof.Rows.boot_any, c_any hc⟩
  | tuple => exact .inr ⟨_, PyProof.Rows.boot_tuple, c_tuple hc⟩
  | list => exact .inr ⟨_, PyProof.Rows.boot_list, c_list⟩
  | int => exact .inr ⟨_, PyProof.Rows.boot_int, c_int⟩
theorem Bi.ok1 (b : Bi) : b.name ≠ "__name__" := by cases b <;> decide
theorem Bi.ok2 (b : Bi) : (b.name == ("__debug__" : Str)) = false := by cases b <;> decide
theorem x_bi {bi : Bi} {es : List Expr} {qs : PXs} (hc : X.calm = true) (hu : X.A.units + 64 < cLine) (hg : Gl X bi.name) (hm : X.mg bi.name = none) (ha : L2.PA X (a :: es) (rdA X.K cl W cf qs))
    (he : starEach (a :: es) X.env = (false, eval a X.env) :: starEach es X.env) (hpl : (backTo pos (starEach es X.env)).any (·.1) = false) :
    L2.PE X (.Call (.Name bi.name p) (a :: es) [] pos) (rdE X.K cl W cf (.bi bi qs)) := by
  have main : ∀ r, L2.PE X (.Call (.Name bi.name p) (a :: es) [] pos) (tCB r (rdA X.K cl W cf qs)) → r = RVs X.K (biV bi) → L2.PE X (.Call (.Name bi.name p) (a :: es) [] pos) (rdE X.K cl W cf (.bi bi qs)) := fun r h e => by
    subst e
    refine PEimp h fun σ H Q h => ?_
    obtain ⟨w, e, st, rfl, he, hs, h⟩ := h
    simp only [ev] at h
    refine ⟨w, e, st, rfl, he, hs, h.bind.mono fun xs H1 hQ => ?_⟩
    obtain ⟨w1, v1, st1, e1, hw1, hs1, r1, h1⟩ := hQ
    subst e1
    obtain ⟨v, q, h1⟩ := h1.ofO
    exact ⟨w1, st1, _, v, rfl, hs1, r1.derefs hs1, q, h1⟩
  rcases c_bi hc hu bi with ⟨id, e, c⟩ | ⟨T, e, c⟩
  · exact main _ (pe_callB c hg hm e ha bi.ok1 bi.ok2 he hpl) rfl
  · exact main _ (pe_callTy c hg hm e ha bi.ok1 bi.ok2 he hpl) rfl

/-- list(..), to be written -/
theorem c_nof : CallR X (.type "list") (fun xs H Q => ∃ (w : Wd) (st : Sto) (a : PV) (x : V) (ys : List PV), w.H = H ∧ StOk X.K w st ∧ xs = [x] ∧ RepW X.K w a x ∧ bList [a] = some (.lst ys) ∧ Gets X.K w (.ref st.length) (st ++ [.lst ys]) Q) := by
  intro pins s σ H xs us Q I r h
  obtain ⟨w, st, a, x, ys, rfl, ok, rfl, ra, e, g⟩ := h
  unfold bList at e
  split at e
  all_goals try contradiction
  · rename_i z
    simp only [List.cons.injEq, and_true] at z
    cases e
    subst z
    obtain ⟨a1, us1, rfl, h1, r1⟩ := ra.lst_inv
    exact call_list_of pins s σ w.H _ us Q I r ⟨a1, us1, rfl, .inl (SqL.of h1), fun p hp => g.loc ok r1 hp⟩
  · rename_i z
    simp only [List.cons.injEq, and_true] at z
    cases e
    subst z
    obtain ⟨a1, us1, rfl, h1, r1⟩ := ra.tup_inv
    exact call_list_of pins s σ w.H _ us Q I r ⟨a1, us1, rfl, .inr h1.sq, fun p hp => g.loc ok r1 hp⟩
theorem x_nof (hg : Gl X "list") (hm : X.mg "list" = none) (ha : L2.PE X a (rdE X.K cl W cf pa)) (he : starEach [a] X.env = (false, eval a X.env) :: starEach [] X.env) :
    L2.PE X (.Call (.Name "list" p) [a] [] pos) (rdE X.K cl W cf (.nof pa)) := by
  refine PEimp (pe_callTy c_nof hg hm PyProof.Rows.boot_list (x_cons ha x_nil he) (by decide) (by decide) he rfl) fun σ H Q h => ?_
  obtain ⟨w, e, st, rfl, he, hs, h⟩ := h
  simp only [ev] at h
  refine ⟨w, e, st, rfl, he, hs, ?_⟩
  simp only [evs]
  cases q : ev cf pa e st with
  | ok v st1 =>
    rw [q] at h
    simp only [Res.bind_ok] at h ⊢
    intro w1 us hw1 hs1 r1
    obtain ⟨u, rfl, ru⟩ := r1.one
    cases q2 : bList [deref st1 v] with
    | none => rw [q2] at h; exact h.elim
    | some y =>
      rw [q2] at h
      cases y with
      | lst ys => exact ⟨w1, st1, _, u, ys, rfl, hs1, rfl, ru.deref hs1, q2, fun w' z a b c => h w' z (hw1.trans a) b c⟩
      | _ => exact h.elim
  | exc c st1 => rw [q] at h; exact h
  | stuck => rw [q] at h; exact h.elim

/-! ### what is walked -/
/-- J walks the items, whatever the world becomes -/
noncomputable def IsIt (K : PySem.W.Frag) (w : Wd) (items : List PV) (J : It) : Prop := ∀ (w2 : Wd) (st2 : Sto), w.le w2 → StOk K w2 st2 →
  (∀ i, i < items.length → J.go i w2.H ∧ ∀ x H', J.yld i w2.H x H' → ∃ (w3 : Wd) (v : PV), w3.H = H' ∧ w2.le w3 ∧ StOk K w3 st2 ∧ items[i]? = some v ∧ Rep K w3 v x) ∧ J.stop items.length w2.H
noncomputable def rdI (K : PySem.W.Frag) (cl : Nat → Value) (W : WX) (cf : CF) (p : Src) : TI := fun σ H R =>
  ∃ (w : Wd) (e : Env) (st : Sto), w.H = H ∧ EnvOk K w e σ ∧ StOk K w st ∧ RdR K cl (WE W σ) (IsIt K) w (evI cf p e st) R
theorem isIt_tup {K : PySem.W.Frag} {w : Wd} {items : List PV} {us : List V} {a1 : Addr} (h : SqI K w a1 us) (r : Reps K w items us) : IsIt K w items (Itt K a1) := fun w2 st2 hw hs => by
  have h2 := h.mono hw
  have r2 := r.mono hw
  refine ⟨fun i hi => ?_, ⟨us, h2.sq, by rw [← r.length]; exact Nat.le_refl _⟩⟩
  obtain ⟨u, hu, ru⟩ := r2.get (List.getElem?_eq_getElem hi)
  refine ⟨⟨us, u, h2.sq, hu⟩, fun x H' hy => ?_⟩
  obtain ⟨rfl, hy⟩ := hy
  have e := hy us h2.sq
  rw [hu] at e
  cases e
  exact ⟨w2, _, rfl, .refl w2, hs, List.getElem?_eq_getElem hi, ru⟩
theorem isIt_lst {K : PySem.W.Frag} {w : Wd} {items : List PV} {us : List V} {a1 : Addr} (h : w.H a1 = some (.lst us)) (n : some a1 ∉ w.m) (r : Reps K w items us) : IsIt K w items (Itl K a1) := fun w2 st2 hw hs => by
  have h2 := hw.keep _ _ h n
  have r2 := r.mono hw
  refine ⟨fun i hi => ?_, ⟨us, SqL.of h2, by rw [← r.length]; exact Nat.le_refl _⟩⟩
  obtain ⟨u, hu, ru⟩ := r2.get (List.getElem?_eq_getElem hi)
  refine ⟨⟨us, u, SqL.of h2, hu⟩, fun x H' hy => ?_⟩
  obtain ⟨rfl, hy⟩ := hy
  have e := hy us (SqL.of h2)
  rw [hu] at e
  cases e
  exact ⟨w2, _, rfl, .refl w2, hs, List.getElem?_eq_getElem hi, ru⟩
theorem isIt_str {K : PySem.W.Frag} {w : Wd} {z : Str} : IsIt K w (z.cps.toList.map fun c => .str [c]) (Its z) := fun w2 st2 hw hs => by
  have wk := walk_str (z := z)
  rw [List.length_map]
  have hl : z.cps.toList.length = z.cps.size := by simp
  refine ⟨fun i hi => ⟨wk.goes i w2.H (by omega) trivial, fun x H' hy => ?_⟩, ?_⟩
  · obtain ⟨rfl, c, hc, rfl⟩ := wk.yields i w2.H x H' (by omega) trivial hy
    refine ⟨w2, .str [c], rfl, .refl w2, hs, ?_, Rep.ofStr (by show 1 ≤ sizeLine; decide)⟩
    rw [List.getElem?_map, Array.getElem?_toList, hc]; rfl
  · show z.cps.size ≤ _
    omega
theorem isIt_rng {K : PySem.W.Frag} {w : Wd} {lo : Int} {n : Nat} : IsIt K w (rngL lo 1 n) (Itr lo n) := fun w2 st2 hw hs => by
  have hl : (rngL lo 1 n).length = n := by unfold rngL; simp
  rw [hl]
  refine ⟨fun i hi => ⟨hi, fun x H' hy => ?_⟩, Nat.le_refl n⟩
  obtain ⟨rfl, rfl⟩ := hy
  refine ⟨w2, .int (lo + i), rfl, .refl w2, hs, ?_, .int _⟩
  unfold rngL
  rw [List.getElem?_map, List.getElem?_range hi]
  simp
theorem isIt_rngC {K : PySem.W.Frag} {w : Wd} {lo c : Int} {n : Nat} : IsIt K w (rngL lo c n) (Itc lo c n) := fun w2 st2 hw hs => by
  have hl : (rngL lo c n).length = n := by unfold rngL; simp
  have wk := walk_rangeC (lo := lo) (c := c) (n := n)
  rw [hl]
  refine ⟨fun i hi => ⟨wk.goes i w2.H hi trivial, fun x H' hy => ?_⟩, Nat.le_refl n⟩
  obtain ⟨rfl, rfl⟩ := wk.yields i w2.H x H' hi trivial hy
  refine ⟨w2, .int (lo + i * c), rfl, .refl w2, hs, ?_, .int _⟩
  unfold rngL
  rw [List.getElem?_map, List.getElem?_range hi]
  simp
variable {tg : Expr}
theorem x_seq (ha : L2.PE X a (rdE X.K cl W cf pa)) : PI X tg a (rdI X.K cl W cf (.seq pa)) := by
  refine ⟨fun pins s σ H R I h => ?_⟩
  obtain ⟨w, e, st, rfl, he, hs, h⟩ := h
  simp only [evI] at h
  have q : rdE X.K cl W cf pa σ w.H (fun x H1 => ∃ (w1 : Wd) (items : List PV) (st1 : Sto) (v1 : PV), w1.H = H1 ∧ StOk X.K w1 st1 ∧ Rep X.K w1 v1 x ∧ itV v1 = some items ∧ ∀ J, IsIt X.K w1 items J → R J H1) := by
    refine ⟨w, e, st, rfl, he, hs, h.bind.mono fun x H1 hQ => ?_⟩
    obtain ⟨w1, v1, st1, e1, hw1, hs1, r1, h1⟩ := hQ
    subst e1
    obtain ⟨items, q, h1⟩ := h1.ofO
    exact ⟨w1, items, st1, v1, rfl, hs1, r1, q, fun J hJ => h1 w1 J (.refl w1) hs1 hJ⟩
  refine thn (ha.run pins s σ w.H _ I q) fun v s1 hQ => ?_
  obtain ⟨x, H1, I1, r1, w1, items, st1, v1, e1, hs1, rr, hi, g⟩ := hQ
  subst e1
  cases rr with
  | str z hz =>
    simp only [itV, Option.some.injEq] at hi
    subst hi
    obtain ⟨t, rfl⟩ := r1
    have q := g _ (isIt_str (z := z))
    cases hal : z.cps.all (· < 128)
    · exact wpAny_pyIter_wide hal (pi_one (tk := s1.toks) I1 _ (turn_str _ z t "str_iterator" (.inr rfl)) ⟨_, Heap.get?_push_size _ rfl, rfl, rfl⟩ q)
    · exact wpAny_pyIter_ascii hal (pi_one (tk := s1.toks) I1 _ (turn_str _ z t "str_ascii_iterator" (.inl rfl)) ⟨_, Heap.get?_push_size _ rfl, rfl, rfl⟩ q)
  | tup h2 q2 =>
    simp only [itV, Option.some.injEq] at hi
    subst hi
    cases r1
    obtain ⟨its, rv, p, hz⟩ := I1.tuple h2.sq
    exact wpAny_pyIter_tuple (show s1.heap.IsTuple _ its.toArray from p) (pi_one (tk := s1.toks) I1 _ (turn_tuple _ _) ⟨_, Heap.get?_push_size _ rfl, rfl, rfl⟩ (g _ (isIt_tup h2 q2)))
  | lst h2 n2 q2 =>
    simp only [itV, Option.some.injEq] at hi
    subst hi
    cases r1
    obtain ⟨its, rv, p, hz⟩ := I1.list (SqL.of h2)
    exact wpAny_pyIter_list p.isList (pi_one (tk := s1.toks) I1 _ (turn_list _ _) ⟨_, Heap.get?_push_size _ rfl, rfl, rfl⟩ (g _ (isIt_lst h2 n2.1 q2)))
  | _ => simp [itV] at hi
theorem PIimp {t t' : TI} (h : PI X tg a t) (f : ∀ σ H R, t' σ H R → t σ H R) : PI X tg a t' := ⟨fun pins s σ H R I q => h.run pins s σ H R I (f σ H R q)⟩
theorem small62_iff {i : Int} : small62 i = true ↔ -(2 ^ 62) ≤ i ∧ i < 2 ^ 62 := by
  unfold small62
  simp only [Bool.and_eq_true, decide_eq_true_eq]
theorem rd_args {ps : PXs} {σ : St} {H : Hp} {R : It → Hp → Prop} (h : rdI X.K cl W cf (.rng ps) σ H R) :
    rdA X.K cl W cf ps σ H fun vs H1 => ∃ (w1 : Wd) (items : List PV) (v1 : List PV), w1.H = H1 ∧ Reps X.K w1 v1 vs ∧ rngV v1 = some items ∧ ∀ J, IsIt X.K w1 items J → R J H1 := by
  obtain ⟨w, e, st, rfl, he, hs, h⟩ := h
  simp only [evI] at h
  refine ⟨w, e, st, rfl, he, hs, h.bind.mono fun x H1 hQ => ?_⟩
  obtain ⟨w1, v1, st1, e1, hw1, hs1, r1, h1⟩ := hQ
  subst e1
  obtain ⟨items, q, h1⟩ := h1.ofO
  exact ⟨w1, items, v1, rfl, r1, q, fun J hJ => h1 w1 J (.refl w1) hs1 hJ⟩
theorem Reps.cons_inv {K : PySem.W.Frag} {w : Wd} {u : V} {us : List V} {vs : List PV} (h : Reps K w vs (u :: us)) : ∃ x xs, vs = x :: xs ∧ Rep K w x u ∧ Reps K w xs us := by
  cases h with
  | cons h r => exact ⟨_, _, rfl, h, r⟩
theorem tA1 {ta : TA} {Q : List V → Hp → Prop} {σ : St} {H : Hp} {R : List V → Hp → Prop} (h : ta σ H R) (hm : ∀ (Q Q' : List V → Hp → Prop), (∀ v H, Q v H → Q' v H) → ta σ H Q → ta σ H Q') (f : ∀ v H, R v H → Q v H) : ta σ H Q := hm R Q f h
theorem rdA_mono {ps : PXs} {σ : St} {H : Hp} {Q Q' : List V → Hp → Prop} (h : rdA X.K cl W cf ps σ H Q) (f : ∀ v H, Q v H → Q' v H) : rdA X.K cl W cf ps σ H Q' := by
  obtain ⟨w, e, st, rfl, he, hs, h⟩ := h
  exact ⟨w, e, st, rfl, he, hs, h.mono f⟩
theorem rngV_one {v1 : List PV} {items : List PV} {n : Int} (e : v1 = [.int n]) (h : rngV v1 = some items) : small62 n = true ∧ items = rngL 0 1 n.toNat := by
  subst e
  simp only [rngV, Option.ite_none_right_eq_some, Option.some.injEq] at h
  exact ⟨h.1, h.2.symm⟩
theorem Reps.len_eq {K : PySem.W.Frag} {w : Wd} {v : List PV} {u : List V} (h : Reps K w v u) : u.length = v.length := h.length.symm
/-- the shapes that range takes -/
theorem rng_shape {v1 : List PV} {items : List PV} (h : rngV v1 = some items) : (∃ n, v1 = [.int n]) ∨ (∃ a b, v1 = [.int a, .int b]) ∨ ∃ a b c, v1 = [.int a, .int b, .int c] := by
  unfold rngV at h
  split at h
  · exact .inl ⟨_, rfl⟩
  · exact .inr (.inl ⟨_, _, rfl⟩)
  · exact .inr (.inr ⟨_, _, _, rfl⟩)
  · cases h
theorem x_rng1 {q1 : PX} (hg : Gl X "range") (hm : X.mg "range" = none) (ha : L2.PA X [a] (rdA X.K cl W cf (.cons q1 .nil))) (hs : starEach [a] X.env = [(false, eval a X.env)]) :
    PI X tg (.Call (.Name "range" p) [a] [] pos) (rdI X.K cl W cf (.rng (.cons q1 .nil))) := by
  refine PIimp (pi_range1 hg hm ha hs) fun σ H R h => ?_
  have lenOk : ∀ (e : Env) (st st' : Sto) (vs : List PV), evs cf (.cons q1 .nil) e st = .ok vs st' → vs.length = 1 := fun e st st' vs q => evs_len q
  obtain ⟨w, e, st, rfl, he, hs, h⟩ := h
  simp only [evI] at h
  refine ⟨w, e, st, rfl, he, hs, h.bindE.mono fun x H1 hQ => ?_⟩
  obtain ⟨w1, v1, st1, e0, e1, hw1, hs1, r1, h1⟩ := hQ
  subst e1
  obtain ⟨items, q, h1⟩ := h1.ofO
  have hl := lenOk e st st1 v1 e0
  rcases rng_shape q with ⟨n, rfl⟩ | ⟨a, b, rfl⟩ | ⟨a, b, c, rfl⟩
  · obtain ⟨h2, rfl⟩ := rngV_one rfl q
    rw [small62_iff] at h2
    obtain ⟨u, rfl, ru⟩ := r1.one
    cases ru.int_inv
    exact ⟨n, rfl, h2.1, h2.2, h1 w1 _ (.refl w1) hs1 isIt_rng⟩
  · simp at hl
  · simp at hl
theorem x_rng2 {q1 q2 : PX} (hg : Gl X "range") (hm : X.mg "range" = none) (ha : L2.PA X [a, b] (rdA X.K cl W cf (.cons q1 (.cons q2 .nil)))) (hs : starEach [a, b] X.env = [(false, eval a X.env), (false, eval b X.env)]) (hs2 : starEach [b] X.env = [(false, eval b X.env)]) :
    PI X tg (.Call (.Name "range" p) [a, b] [] pos) (rdI X.K cl W cf (.rng (.cons q1 (.cons q2 .nil)))) := by
  refine PIimp (pi_range2 hg hm ha hs hs2) fun σ H R h => ?_
  obtain ⟨w, e, st, rfl, he, hs, h⟩ := h
  simp only [evI] at h
  refine ⟨w, e, st, rfl, he, hs, h.bindE.mono fun x H1 hQ => ?_⟩
  obtain ⟨w1, v1, st1, e0, e1, hw1, hs1, r1, h1⟩ := hQ
  subst e1
  obtain ⟨items, q, h1⟩ := h1.ofO
  have hl : v1.length = 2 := evs_len e0
  rcases rng_shape q with ⟨n, rfl⟩ | ⟨i, j, rfl⟩ | ⟨i, j, l, rfl⟩
  · simp at hl
  · simp only [rngV, Option.ite_none_right_eq_some, Option.some.injEq, Bool.and_eq_true, small62_iff] at q
    obtain ⟨⟨h2, h3⟩, rfl⟩ := q
    obtain ⟨u, u', rfl, ru, ru'⟩ := r1.two
    cases ru.int_inv
    cases ru'.int_inv
    exact ⟨i, j, rfl, ⟨h2.1, h2.2, h3.1, h3.2⟩, h1 w1 _ (.refl w1) hs1 isIt_rng⟩
  · simp at hl
theorem x_rng3 {q1 q2 q3 : PX} (hg : Gl X "range") (hm : X.mg "range" = none) (ha : L2.PA X [a, b, c] (rdA X.K cl W cf (.cons q1 (.cons q2 (.cons q3 .nil))))) (hs : starEach [a, b, c] X.env = (false, eval a X.env) :: starEach [b, c] X.env)
    (hpl : (backTo pos (starEach [b, c] X.env)).any (·.1) = false) :
    PI X tg (.Call (.Name "range" p) [a, b, c] [] pos) (rdI X.K cl W cf (.rng (.cons q1 (.cons q2 (.cons q3 .nil))))) := by
  refine PIimp (pi_range3 hg hm ha hs hpl) fun σ H R h => ?_
  obtain ⟨w, e, st, rfl, he, hs, h⟩ := h
  simp only [evI] at h
  refine ⟨w, e, st, rfl, he, hs, h.bindE.mono fun x H1 hQ => ?_⟩
  obtain ⟨w1, v1, st1, e0, e1, hw1, hs1, r1, h1⟩ := hQ
  subst e1
  obtain ⟨items, q, h1⟩ := h1.ofO
  have hl : v1.length = 3 := evs_len e0
  rcases rng_shape q with ⟨n, rfl⟩ | ⟨i, j, rfl⟩ | ⟨i, j, l, rfl⟩
  · simp at hl
  · simp at hl
  · simp only [rngV, Option.ite_none_right_eq_some, Option.some.injEq, Bool.and_eq_true, decide_eq_true_eq] at q
    obtain ⟨⟨⟨h2, h3⟩, h4, h5⟩, rfl⟩ := q
    obtain ⟨u, us, rfl⟩ : ∃ u us, x = u :: us := by cases r1; exact ⟨_, _, rfl⟩
    cases r1 with
    | cons ru rr =>
      obtain ⟨u', u2, rfl, ru', ru2⟩ := rr.two
      cases ru.int_inv
      cases ru'.int_inv
      cases ru2.int_inv
      exact ⟨i, j, l, _, rfl, ⟨h2, h3, h4, by omega⟩, h1 w1 _ (.refl w1) hs1 isIt_rngC⟩
end
end PL

/-! PL6: targets, comprehensions. -/
namespace PL
open PySem L2

mutual
noncomputable def Tg.slots : Tg → List Nat
  | .nm i => [i]
  | .tp ts => Tgs.slots ts
noncomputable def Tgs.slots : Tgs → List Nat
  | .nil => []
  | .cons t r => Tg.slots t ++ Tgs.slots r
end
noncomputable def Tgs.len : Tgs → Nat
  | .nil => 0
  | .cons _ r => r.len + 1
theorem asgTs_len : ∀ {ts : Tgs} {vs : List PV} {e e' : Env}, asgTs ts vs e = some e' → vs.length = ts.len
  | .nil, [], _, _, _ => rfl
  | .nil, _ :: _, _, _, h => by simp [asgTs] at h
  | .cons t r, [], _, _, h => by simp [asgTs] at h
  | .cons t r, v :: vs, e, e', h => by
    simp only [asgTs] at h
    cases q : asgT t v e with
    | none => rw [q] at h; cases h
    | some e1 =>
      rw [q] at h
      rw [List.length_cons, asgTs_len h]; rfl

/-- the slots behind an assignment -/
noncomputable def AsgOk (K : PySem.W.Frag) (w : Wd) (e' : Env) (sl : List Nat) (σ σ' : St) : Prop := σ'.length = σ.length ∧ (∀ i, i ∉ sl → σ'[i]? = σ[i]?) ∧ EnvOk K w e' σ'
noncomputable def rdG (K : PySem.W.Frag) (t : Tg) : TG := fun v σ H Q => ∃ (w : Wd) (e e' : Env) (pv : PV), w.H = H ∧ EnvOk K w e σ ∧ Rep K w pv v ∧ asgT t pv e = some e' ∧ ∀ σ', AsgOk K w e' t.slots σ σ' → Q σ' H
noncomputable def rdGs (K : PySem.W.Frag) (t : Tgs) : TGs := fun v σ H Q => ∃ (w : Wd) (e e' : Env) (pv : List PV), w.H = H ∧ EnvOk K w e σ ∧ Reps K w pv v ∧ asgTs t pv e = some e' ∧ ∀ σ', AsgOk K w e' t.slots σ σ' → Q σ' H
section
variable {X : Cx} {pos : Pos}
theorem PGimp {tg : Expr} {t t' : TG} (h : PG X tg t) (f : ∀ v σ H Q, σ.length = X.N.length → t' v σ H Q → t v σ H Q) : PG X tg t' := ⟨fun pins s σ H v u Q I r q => h.run pins s σ H v u Q I r (f v σ H Q I.len q)⟩
theorem PGsimp {tg : List Expr} {t t' : TGs} (h : PGs X tg t) (f : ∀ v σ H Q, σ.length = X.N.length → t' v σ H Q → t v σ H Q) : PGs X tg t' := ⟨fun pins s σ H v u Q I r q => h.run pins s σ H v u Q I r (f v σ H Q I.len q)⟩
theorem PGor {tg : Expr} {t t' : TG} (h : PG X tg t) (h' : PG X tg t') : PG X tg (fun v σ H Q => t v σ H Q ∨ t' v σ H Q) := ⟨fun pins s σ H v u Q I r q => q.elim (fun q => h.run pins s σ H v u Q I r q) fun q => h'.run pins s σ H v u Q I r q⟩
theorem g_name {i : Nat} {x : Str} (hN : X.N.Nodup) (hi : X.N[i]? = some x) (hx : Loc X.env.scope x) (hf : X.fn x = true ∨ X.env.scope.names.lookup x = some .local) : PG X (.Name x pos) (rdG X.K (.nm i)) := by
  refine PGimp (pg_name hN hi hx hf) fun v σ H Q hl h => ?_
  obtain ⟨w, e, e', pv, rfl, he, r, q, h⟩ := h
  simp only [asgT, Option.some.injEq] at q
  subst q
  have hiσ : i < σ.length := by rw [hl]; exact (List.getElem?_eq_some_iff.mp hi).1
  refine h _ ⟨by simp, fun j hj => ?_, he.set r i hiσ⟩
  rw [List.getElem?_set_ne]
  intro z
  exact hj (by simp [Tg.slots, z])
theorem gs_nil : PGs X [] (rdGs X.K .nil) := by
  refine PGsimp pgs_nil fun v σ H Q hl h => ?_
  obtain ⟨w, e, e', pv, rfl, he, r, q, h⟩ := h
  cases pv with
  | nil =>
    cases r
    simp only [asgTs, Option.some.injEq] at q
    subst q
    exact ⟨rfl, h σ ⟨rfl, fun _ _ => rfl, he⟩⟩
  | cons _ _ => simp [asgTs] at q
theorem gs_cons {a : Expr} {es : List Expr} {t : Tg} {r : Tgs} (h1 : PG X a (rdG X.K t)) (h2 : PGs X es (rdGs X.K r)) (hs : (assignEach (a :: es) X.env).map (·.2) = assign a X.env :: (assignEach es X.env).map (·.2)) :
    PGs X (a :: es) (rdGs X.K (.cons t r)) := by
  refine PGsimp (pgs_cons h1 h2 hs) fun v σ H Q hl h => ?_
  obtain ⟨w, e, e', pv, rfl, he, rr, q, h⟩ := h
  cases pv with
  | nil => simp [asgTs] at q
  | cons x xs =>
    cases rr with
    | cons ra rb =>
      simp only [asgTs] at q
      cases q1 : asgT t x e with
      | none => rw [q1] at q; cases q
      | some e1 =>
        rw [q1] at q
        simp only [Option.bind_some] at q
        refine ⟨_, _, rfl, w, e, e1, x, rfl, he, ra, q1, fun σ1 ⟨l1, k1, he1⟩ => ?_⟩
        refine ⟨w, e1, e', xs, rfl, he1, rb, q, fun σ2 ⟨l2, k2, he2⟩ => h σ2 ⟨l2.trans l1, fun i hi => ?_, he2⟩⟩
        simp only [Tgs.slots, List.mem_append, not_or] at hi
        rw [k2 i hi.2, k1 i hi.1]
theorem g_tup {es : List Expr} {k : Nat} {ts : Tgs} (hc : X.calm = true) (h : PGs X es (rdGs X.K ts)) (hn : (assignEach es X.env).length = ts.len) (hst : (assignEach es X.env).findIdx? (·.1) = none) : PG X (.Tuple es k pos) (rdG X.K (.tp ts)) := by
  refine PGimp (PGor (pg_tup hc h hn hst) (pg_unl hc h hn hst)) fun v σ H Q hl h => ?_
  obtain ⟨w, e, e', pv, rfl, he, r, q, h⟩ := h
  cases r with
  | tup h2 r2 =>
    simp only [asgT] at q
    exact .inl ⟨_, _, rfl, h2.sq, by rw [← r2.length, asgTs_len q], w, e, e', _, rfl, he, r2, q, h⟩
  | lst h2 n2 r2 =>
    simp only [asgT] at q
    exact .inr ⟨_, _, rfl, SqL.of h2, by rw [← r2.length, asgTs_len q], w, e, e', _, rfl, he, r2, q, h⟩
  | _ => simp [asgT] at q
end

/-! ### comprehensions -/
/-- the list that is being made -/
noncomputable def Wd.wr (w : Wd) (D : Addr) (o : HO) : Wd := ⟨w.m, w.p, upd w.H D o⟩
section
variable {K : PySem.W.Frag} {w : Wd} {D : Addr} {o : HO} {old : List V}
mutual
theorem Rep.wr (hD : D ∈ w.p) (hl : w.H D = some (.lst old)) : ∀ {v : PV} {u : V}, Rep K w v u → Rep K (w.wr D o) v u
  | _, _, .non => .non
  | _, _, .bl b => .bl b
  | _, _, .int i => .int i
  | _, _, .str z h => .str z h
  | _, _, .tup h r => .tup (by
      rcases h with ⟨h, n⟩ | h
      · refine .inl ⟨?_, n⟩
        show upd w.H D o _ = _
        rw [upd_ne (fun z => by rw [z, hl] at h; cases h)]; exact h
      · exact .inr h) (Reps.wr hD hl r)
  | _, _, .lst h n r => .lst (by
      show upd w.H D o _ = _
      rw [upd_ne (fun z => n.2 (by rw [z]; exact hD))]; exact h) n (Reps.wr hD hl r)
  | _, _, .scr h => .scr (by
      rcases h with ⟨ob, h, n⟩ | h
      · refine .inl ⟨ob, ?_, n⟩
        show upd w.H D o _ = _
        rw [upd_ne (fun z => by rw [z, hl] at h; cases h)]; exact h
      · exact .inr h)
  | _, _, .ref h => .ref h
  | _, _, .gone h => .gone h
theorem Reps.wr (hD : D ∈ w.p) (hl : w.H D = some (.lst old)) : ∀ {v : List PV} {u : List V}, Reps K w v u → Reps K (w.wr D o) v u
  | _, _, .nil => .nil
  | _, _, .cons h r => .cons (Rep.wr hD hl h) (Reps.wr hD hl r)
end
/-- what is not private any more -/
noncomputable def Wd.own (w : Wd) (p : List Addr) : Wd := ⟨w.m, p, w.H⟩
mutual
theorem Rep.own {p : List Addr} (hp : ∀ a ∈ p, a ∈ w.p) : ∀ {v : PV} {u : V}, Rep K w v u → Rep K (w.own p) v u
  | _, _, .non => .non
  | _, _, .bl b => .bl b
  | _, _, .int i => .int i
  | _, _, .str z h => .str z h
  | _, _, .tup h r => .tup h (Reps.own hp r)
  | _, _, .lst h n r => .lst h ⟨n.1, fun z => n.2 (hp _ z)⟩ (Reps.own hp r)
  | _, _, .scr h => .scr h
  | _, _, .ref h => .ref h
  | _, _, .gone h => .gone h
theorem Reps.own {p : List Addr} (hp : ∀ a ∈ p, a ∈ w.p) : ∀ {v : List PV} {u : List V}, Reps K w v u → Reps K (w.own p) v u
  | _, _, .nil => .nil
  | _, _, .cons h r => .cons (Rep.own hp h) (Reps.own hp r)
end
theorem RepF.wr (hD : D ∈ w.p) (hl : w.H D = some (.lst old)) : ∀ {v : Flds} {u : List (Str × V)}, RepF K w v u → RepF K (w.wr D o) v u
  | _, _, .nil => .nil
  | _, _, .cons h r => .cons (Rep.wr hD hl h) (RepF.wr hD hl r)
theorem RepD.wr (hD : D ∈ w.p) (hl : w.H D = some (.lst old)) : ∀ {v : DC} {u : List (List L2.Key × V)}, RepD K w v u → RepD K (w.wr D o) v u
  | _, _, .nil => .nil
  | _, _, .cons h r => .cons (Rep.wr hD hl h) (RepD.wr hD hl r)
theorem RepD.own {p : List Addr} (hp : ∀ a ∈ p, a ∈ w.p) : ∀ {v : DC} {u : List (List L2.Key × V)}, RepD K w v u → RepD K (w.own p) v u
  | _, _, .nil => .nil
  | _, _, .cons h r => .cons (Rep.own hp h) (RepD.own hp r)
theorem RepF.own {p : List Addr} (hp : ∀ a ∈ p, a ∈ w.p) : ∀ {v : Flds} {u : List (Str × V)}, RepF K w v u → RepF K (w.own p) v u
  | _, _, .nil => .nil
  | _, _, .cons h r => .cons (Rep.own hp h) (RepF.own hp r)
theorem StOk.wr {st : Sto} (h : StOk K w st) (hD : D ∈ w.p) (hl : w.H D = some (.lst old)) (hm : some D ∉ w.m) : StOk K (w.wr D o) st where
  len := h.len
  inj := h.inj
  cell := fun l a q => by
    obtain ⟨c, hc, ok⟩ := h.cell l a q
    refine ⟨c, hc, ?_⟩
    have ne : a ≠ D := fun z => hm (by rw [← z]; exact m_mem q)
    cases c with
    | dead => exact ok
    | fdc kvs =>
      obtain ⟨o', us, h1, r⟩ := ok
      exact ⟨o', us, by show upd w.H D o a = _; rw [upd_ne ne]; exact h1, r.wr hD hl⟩
    | lst xs =>
      obtain ⟨us, h1, r⟩ := ok
      exact ⟨us, by show upd w.H D o a = _; rw [upd_ne ne]; exact h1, r.wr hD hl⟩
    | obj C fs =>
      obtain ⟨E, dx, us, h0, h1, r⟩ := ok
      exact ⟨E, dx, us, h0, by show upd w.H D o a = _; rw [upd_ne ne]; exact h1, r.wr hD hl⟩
    | dct t kvs =>
      cases t with
      | true =>
        obtain ⟨us, h1, r⟩ := ok
        exact ⟨us, by show upd w.H D o a = _; rw [upd_ne ne]; exact h1, r.wr hD hl⟩
      | false =>
        obtain ⟨us, h1, r⟩ := ok
        exact ⟨us, by show upd w.H D o a = _; rw [upd_ne ne]; exact h1, r.wr hD hl⟩
  prv := fun a q => by
    obtain ⟨u, hu⟩ := h.prv a q
    by_cases z : a = D
    · exact ⟨o, by show upd w.H D o a = _; rw [z]; exact upd_same⟩
    · exact ⟨u, by show upd w.H D o a = _; rw [upd_ne z]; exact hu⟩
  dis := h.dis
  gone := h.gone
theorem StOk.own {st : Sto} {p : List Addr} (h : StOk K w st) (hp : ∀ a ∈ p, a ∈ w.p) : StOk K (w.own p) st where
  len := h.len
  inj := h.inj
  cell := fun l a q => by
    obtain ⟨c, hc, ok⟩ := h.cell l a q
    refine ⟨c, hc, ?_⟩
    cases c with
    | dead => exact ok
    | fdc kvs =>
      obtain ⟨o', us, h1, r⟩ := ok
      exact ⟨o', us, h1, r.own hp⟩
    | lst xs =>
      obtain ⟨us, h1, r⟩ := ok
      exact ⟨us, h1, r.own hp⟩
    | obj C fs =>
      obtain ⟨E, dx, us, h0, h1, r⟩ := ok
      exact ⟨E, dx, us, h0, h1, r.own hp⟩
    | dct t kvs =>
      cases t with
      | true =>
        obtain ⟨us, h1, r⟩ := ok
        exact ⟨us, h1, r.own hp⟩
      | false =>
        obtain ⟨us, h1, r⟩ := ok
        exact ⟨us, h1, r.own hp⟩
  prv := fun a q => h.prv a (hp a q)
  dis := fun a q z => h.dis a q (hp a z)
  gone := h.gone
/-- a world with a private new list -/
noncomputable def Wd.prv (w : Wd) (D : Addr) : Wd := ⟨w.m, D :: w.p, upd w.H D (.lst [])⟩
theorem Wd.prv_le (e : w.H D = none) : w.le (w.prv D) where
  len := Nat.le_refl _
  loc := fun _ _ h => .inl h
  dead := fun _ h => h
  keep := fun a u h _ => by
    show upd w.H D _ a = some u
    rw [upd_ne (ne_of_none h e)]; exact h
  fresh := fun _ h => .inl h
  priv := fun _ h => List.mem_cons_of_mem _ h
  freshp := fun a h => by
    rcases List.mem_cons.mp h with z | z
    · exact .inr (by rw [z]; exact e)
    · exact .inl z
  lck := fun a _ u h => by
    show upd w.H D _ a = _
    rw [upd_ne (ne_of_none h e)]; exact h
  trk := fun a u h => ⟨u, by
    show upd w.H D _ a = some u
    rw [upd_ne (ne_of_none h e)]; exact h⟩
theorem StOk.prv' {st : Sto} (h : StOk K w st) (e : w.H D = none) : StOk K (w.prv D) st where
  len := h.len
  inj := h.inj
  cell := fun l a q => by
    obtain ⟨c, hc, ok⟩ := h.cell l a q
    refine ⟨c, hc, ok.put (Wd.prv_le e) fun u hu => ?_⟩
    show upd w.H D _ a = some u
    rw [upd_ne (ne_of_none hu e)]; exact hu
  prv := fun a q => by
    rcases List.mem_cons.mp q with z | z
    · exact ⟨_, by rw [z]; exact upd_same⟩
    · obtain ⟨u, hu⟩ := h.prv a z
      exact (Wd.prv_le e).trk a u hu
  dis := fun a q z => by
    rcases List.mem_cons.mp z with z | z
    · subst z; exact h.new e q
    · exact h.dis a q z
  gone := h.gone
end
theorem wipe_get {σ : St} {i : Nat} : ∀ {vs : List Nat}, (wipe σ vs)[i]? = if i ∈ vs ∧ i < σ.length then some none else σ[i]?
  | [] => by simp [wipe]
  | v :: vs => by
    have ih := wipe_get (σ := σ) (i := i) (vs := vs)
    unfold wipe
    rw [List.getElem?_set]
    by_cases hv : v = i
    · subst hv
      rw [wipe_length]
      by_cases hl : v < σ.length
      · simp [hl]
      · simp only [if_true, hl, if_false, and_false]
        exact (List.getElem?_eq_none (by omega)).symm
    · rw [if_neg hv, ih]
      simp [List.mem_cons, Ne.symm hv]
theorem wipe_eq {σ σ' : St} {vs : List Nat} (hl : σ'.length = σ.length) (h : ∀ i, i ∉ vs → σ'[i]? = σ[i]?) : wipe σ' vs = wipe σ vs := by
  apply List.ext_getElem?
  intro i
  rw [wipe_get, wipe_get, hl]
  by_cases hi : i ∈ vs
  · by_cases hs : i < σ.length
    · simp [hi, hs]
    · simp only [hi, hs, and_false, if_false]
      rw [List.getElem?_eq_none (by omega), List.getElem?_eq_none (by omega)]
  · simp only [hi, false_and, if_false]
    exact h i hi
theorem wipe_wipe {σ : St} {vs : List Nat} : wipe (wipe σ vs) vs = wipe σ vs := by
  refine wipe_eq (wipe_length _ _) fun i hi => ?_
  rw [wipe_get, if_neg (fun z => hi z.1)]

/-- the steps of the comprehension's loop, from the i-th item on -/
theorem compL_drop {f : PV → Sto → Res (Option PV)} {items : List PV} {i : Nat} {v : PV} (h : items[i]? = some v) (st : Sto) :
    compL f (items.drop i) st = (f v st).bind fun o st1 => (compL f (items.drop (i + 1)) st1).bind fun r st2 => .ok (o.toList ++ r) st2 := by
  obtain ⟨hi, e⟩ := List.getElem?_eq_some_iff.mp h
  rw [List.drop_eq_getElem_cons hi, e]
  rfl
theorem Res.bind_bind {α β γ : Type} (r : Res α) (f : α → Sto → Res β) (g : β → Sto → Res γ) : (r.bind f).bind g = r.bind fun a st => (f a st).bind g := by
  cases r <;> rfl
theorem Res.bind_id {α : Type} (r : Res α) : (r.bind fun a st => .ok a st) = r := by
  cases r <;> rfl

noncomputable def Wfalse : WX := fun _ _ _ _ => False
/-- the tests of a clause -/
theorem ts_yes {X : Cx} {cl : Nat → Value} {W : WX} {cf : CF} : L2.PTs X [] (rdT X.K cl W cf .yes) := by
  refine ⟨fun pins s σ H Q I h => pts_nil.run pins s σ H Q I ?_⟩
  obtain ⟨w, e, st, rfl, he, hs, h⟩ := h
  simp only [evT] at h
  exact h w true (.refl w) hs rfl
theorem ts_one {X : Cx} {c : Expr} {t : TT} (h : L2.PT X c t) : L2.PTs X [c] t := pts_one h
theorem Res.bind_eq_ok {α β : Type} {r : Res α} {f : α → Sto → Res β} {b : β} {st : Sto} (h : r.bind f = .ok b st) : ∃ a st1, r = .ok a st1 ∧ f a st1 = .ok b st := by
  cases r with
  | ok a st1 => exact ⟨a, st1, rfl, h⟩
  | exc c st1 => cases h
  | stuck => cases h

/-- a comprehension's loop; its list stands at D -/
theorem comp_core {X : Cx} {cl : Nat → Value} {cf : CF} {own : List Nat} {t : Tg} {c : PT} {pe : PX} (hsl : ∀ i ∈ t.slots, i ∈ own) {σ : St} {Q : VK} {w w1 : Wd} {e : Env} {st1 stF : Sto} {items vs : List PV} {J : It} {f : PV → Sto → Res (Option PV)} {D : Addr}
    (he : EnvOk X.K w e σ) (hw1 : w.le w1) (hs1 : StOk X.K w1 st1) (hJ : IsIt X.K w1 items J) (hD : w1.H D = none) (hz : items.length ≤ SZ)
    (hf : (fun (x : PV) (st2 : Sto) => match asgT t x (wipeR e own) with
          | none => (Res.stuck : Res (Option PV))
          | some e1 => (evT cf c e1 st2).bind fun b st3 => if b then (ev cf pe e1 st3).bind fun v st4 => .ok (some v) st4 else .ok none st3) = f)
    (hall : compL f items st1 = .ok vs stF)
    (hQ : ∀ (w2 : Wd) (us : List V), w1.le w2 → D ∈ w2.p → some D ∉ w2.m → StOk X.K w2 stF → w2.H D = some (.lst us) → Reps X.K w2 vs us → Q (.ref D) w2.H) :
    ∃ Wp : Nat → Nat → Hp → Prop, (∃ m, Wp 0 m (upd w1.H D (.lst []))) ∧ ∀ i m H, Wp i m H →
      (J.stop i H ∧ Q (.ref D) H) ∨ (J.go i H ∧ ∃ Nx : Hp → Prop, (∀ H', Nx H' → ∃ m', m' < m ∧ Wp (i + 1) m' H') ∧ ∀ x H', J.yld i H x H' → rdG X.K t x (wipe σ own) H' fun σ2 H2 => wipe σ2 own = wipe σ own ∧ rdT X.K cl Wfalse cf c σ2 H2 fun b H3 =>
        if b = true then rdE X.K cl Wfalse cf pe σ2 H3 fun y H4 => ∃ acc, H4 D = some (.lst acc) ∧ acc.length < sizeLine ∧ Nx (upd H4 D (.lst (acc ++ [y]))) else Nx H3) := by
  refine ⟨fun i m H => m = items.length - i ∧ i ≤ items.length ∧ ∃ (w2 : Wd) (st2 : Sto) (acc : List PV) (us : List V), w2.H = H ∧ w1.le w2 ∧ D ∈ w2.p ∧ some D ∉ w2.m ∧ StOk X.K w2 st2 ∧
    w2.H D = some (.lst us) ∧ Reps X.K w2 acc us ∧ acc.length ≤ i ∧ ((compL f (items.drop i) st2).bind fun r st3 => .ok (acc ++ r) st3) = .ok vs stF, ⟨items.length, ?_⟩, ?_⟩
  · refine ⟨by omega, Nat.zero_le _, w1.prv D, st1, [], [], rfl, Wd.prv_le hD, by simp [Wd.prv], hs1.new hD, hs1.prv' hD, upd_same, .nil, Nat.le_refl _, ?_⟩
    rw [List.drop_zero, hall]; rfl
  · intro i m H ⟨hm, hi, w2, st2, acc, us, e2, hw2, hDp, hDm, hs2, hl, ra, hacc, heq⟩
    subst e2
    obtain ⟨go, stop⟩ := hJ w2 st2 hw2 hs2
    by_cases hin : i = items.length
    · subst hin
      refine .inl ⟨stop, ?_⟩
      rw [List.drop_length] at heq
      simp only [compL, Res.bind_ok, List.append_nil, Res.ok.injEq] at heq
      obtain ⟨rfl, rfl⟩ := heq
      exact hQ w2 us hw2 hDp hDm hs2 hl ra
    · have hlt : i < items.length := by omega
      obtain ⟨hgo, hy⟩ := go i hlt
      refine .inr ⟨hgo, fun H' => i + 1 ≤ items.length ∧ ∃ (w2 : Wd) (st2 : Sto) (acc : List PV) (us : List V), w2.H = H' ∧ w1.le w2 ∧ D ∈ w2.p ∧ some D ∉ w2.m ∧ StOk X.K w2 st2 ∧
        w2.H D = some (.lst us) ∧ Reps X.K w2 acc us ∧ acc.length ≤ i + 1 ∧ ((compL f (items.drop (i + 1)) st2).bind fun r st3 => .ok (acc ++ r) st3) = .ok vs stF, fun H' q => ⟨items.length - (i + 1), by omega, rfl, q⟩, fun x H' hyx => ?_⟩
      obtain ⟨w3, v, e3, hw3, hs3, hv, rv⟩ := hy x H' hyx
      subst e3
      rw [compL_drop hv, Res.bind_bind] at heq
      obtain ⟨o, st3, hfv, heq⟩ := Res.bind_eq_ok heq
      rw [← hf] at hfv
      simp only at hfv
      have hD3 : D ∈ w3.p := hw3.priv D hDp
      have hl3 : w3.H D = some (.lst us) := hw3.keep D _ hl hDm
      have hm3 : some D ∉ w3.m := notin_of hw3 hl hDm
      cases qa : asgT t v (wipeR e own) with
      | none => rw [qa] at hfv; cases hfv
      | some e1 =>
        rw [qa] at hfv
        simp only at hfv
        obtain ⟨b, st4, hb, hfv⟩ := Res.bind_eq_ok hfv
        refine ⟨w3, wipeR e own, e1, v, rfl, (he.mono (hw1.trans (hw2.trans hw3))).wipe own, rv, qa, fun σ2 ⟨l2, k2, he2⟩ => ⟨?_, ?_⟩⟩
        · rw [wipe_eq (l2.trans (wipe_length σ own)) (fun j hj => ?_)]
          rw [k2 j (fun z => hj (hsl j z)), wipe_get, if_neg (fun z => hj z.1)]
        · refine ⟨w3, e1, st2, rfl, he2, hs3, ?_⟩
          rw [hb]
          intro w4 b' hw4 hs4 hbb
          subst hbb
          have hD4 : D ∈ w4.p := hw4.priv D hD3
          have hl4 : w4.H D = some (.lst us) := hw4.keep D _ hl3 hm3
          have hm4 : some D ∉ w4.m := notin_of hw4 hl3 hm3
          cases b with
          | false =>
            simp only [Bool.false_eq_true, if_false, Res.ok.injEq] at hfv
            obtain ⟨rfl, rfl⟩ := hfv
            rw [if_neg (by decide)]
            refine ⟨hlt, w4, st4, acc, us, rfl, hw2.trans (hw3.trans hw4), hD4, hm4, hs4, hl4, ra.mono (hw3.trans hw4), by omega, ?_⟩
            simpa [Res.bind_bind, Res.bind_ok] using heq
          | true =>
            simp only [if_true] at hfv
            obtain ⟨y, st5, hy5, hfv⟩ := Res.bind_eq_ok hfv
            simp only [Res.ok.injEq] at hfv
            obtain ⟨rfl, rfl⟩ := hfv
            rw [if_pos rfl]
            refine ⟨w4, e1, st4, rfl, he2.mono hw4, hs4, ?_⟩
            rw [hy5]
            intro w5 u hw5 hs5 ru
            have hD5 : D ∈ w5.p := hw5.priv D hD4
            have hl5 : w5.H D = some (.lst us) := hw5.keep D _ hl4 hm4
            have hm5 : some D ∉ w5.m := notin_of hw5 hl4 hm4
            have hlen : us.length = acc.length := ra.length.symm
            have hz' : items.length ≤ sizeLine := hz
            have ra5 := ra.mono (hw3.trans (hw4.trans hw5))
            refine ⟨us, hl5, by omega, hlt, w5.wr D (.lst (us ++ [u])), st5, acc ++ [y], us ++ [u], rfl, ?_, hD5, hm5, hs5.wr hD5 hl5 hm5, upd_same, (ra5.append (.cons ru .nil)).wr hD5 hl5, by simp; omega, ?_⟩
            · have hw := hw2.trans (hw3.trans (hw4.trans hw5))
              have ne : ∀ a o, w1.H a = some o → a ≠ D := fun a o q z => by rw [z, hD] at q; cases q
              refine ⟨⟨hw.len, hw.loc, hw.dead, fun a o q n => ?_, hw.fresh, hw.priv, hw.freshp, fun a o q => ?_⟩, fun a o u q => ?_⟩
              · show upd w5.H D _ a = _
                rw [upd_ne (ne a o q)]
                exact hw.keep a o q n
              · obtain ⟨o', q'⟩ := hw.trk a o q
                exact ⟨o', by show upd w5.H D _ a = _; rw [upd_ne (ne a o q)]; exact q'⟩
              · show upd w5.H D _ a = _
                rw [upd_ne (ne a _ q)]
                exact hw.lck a o u q
            · simpa [Res.bind_bind, Res.bind_ok] using heq
theorem x_comp {X : Cx} {cl : Nat → Value} {W : WX} {cf : CF} {own : List Nat} {t : Tg} {s : Src} {c : PT} {pe : PX} (hsl : ∀ i ∈ t.slots, i ∈ own) {σ : St} {H : Hp} {Q : VK} (h : rdE X.K cl W cf (.comp own t s c pe) σ H Q) :
    tLc (rdI X.K cl W cf s) (rdG X.K t) (rdT X.K cl Wfalse cf c) (rdE X.K cl Wfalse cf pe) own σ H Q := by
  obtain ⟨w, e, st, rfl, he, hs, h⟩ := h
  simp only [ev] at h
  refine ⟨w, e, st, rfl, he, hs, h.bind.mono fun J H1 hQ => ?_⟩
  obtain ⟨w1, items, st1, e1, hw1, hs1, hJ, h1⟩ := hQ
  subst e1
  intro D hD
  by_cases hz : items.length ≤ SZ
  · rw [if_pos hz] at h1
    generalize hf : (fun (x : PV) (st2 : Sto) => match asgT t x (wipeR e own) with
          | none => (Res.stuck : Res (Option PV))
          | some e1 => (evT cf c e1 st2).bind fun b st3 => if b then (ev cf pe e1 st3).bind fun v st4 => .ok (some v) st4 else .ok none st3) = f at h1
    obtain ⟨vs, stF, hall, hQ⟩ : ∃ vs stF, compL f items st1 = .ok vs stF ∧ ∀ w' u, w1.le w' → StOk X.K w' stF → Rep X.K w' (.lst vs) u → Q u w'.H := by
      cases q : compL f items st1 with
      | ok vs stF => rw [q] at h1; exact ⟨vs, stF, rfl, h1⟩
      | exc c st => rw [q] at h1; exact h1.elim
      | stuck => rw [q] at h1; exact h1.elim
    exact comp_core hsl he hw1 hs1 hJ hD hz hf hall fun w2 us hw2 hDp hDm hs2 hl ra => by
      have hw : w1.le (w2.own w1.p) := ⟨⟨hw2.len, hw2.loc, hw2.dead, hw2.keep, hw2.fresh, fun _ z => z, fun _ z => .inl z, hw2.trk⟩, hw2.lck⟩
      exact hQ (w2.own w1.p) (.ref D) hw (hs2.own hw2.priv) (.lst hl ⟨hDm, hs1.newp hD⟩ (ra.own hw2.priv))
  · rw [if_neg hz] at h1
    exact h1.elim
/-! a list that a comprehension has filled becomes a location -/
section
variable {K : PySem.W.Frag} {w : Wd} {D : Addr} {old : List V} {q : List Addr}
theorem ap_left {m : List (Option Addr)} {l : Nat} {o : Option Addr} (h : m[l]? = some o) : (m ++ [some D])[l]? = some o := by
  rw [List.getElem?_append_left (List.getElem?_eq_some_iff.mp h).1]; exact h
theorem ap_not {m : List (Option Addr)} {a : Addr} (h : some a ∉ m) (ne : a ≠ D) : some a ∉ m ++ [some D] := fun z => by
  rcases List.mem_append.mp z with z | z
  · exact h z
  · simp at z; exact ne z
mutual
theorem Rep.own1 (hq : ∀ a ∈ q, a ∈ w.p) (hD : D ∈ w.p) (hl : w.H D = some (.lst old)) : ∀ {v : PV} {u : V}, Rep K w v u → Rep K (w.own1 D q) v u
  | _, _, .non => .non
  | _, _, .bl b => .bl b
  | _, _, .int i => .int i
  | _, _, .str z h => .str z h
  | _, _, .tup h r => .tup (by
      rcases h with ⟨h, n⟩ | h
      · refine .inl ⟨h, ap_not n fun z => ?_⟩
        subst z
        rw [hl] at h; cases h
      · exact .inr h) (Reps.own1 hq hD hl r)
  | _, _, .lst h n r => .lst h ⟨ap_not n.1 fun z => n.2 (by rw [z]; exact hD), fun z => n.2 (hq _ z)⟩ (Reps.own1 hq hD hl r)
  | _, _, .scr h => .scr (by
      rcases h with ⟨o, h, n⟩ | h
      · exact .inl ⟨o, h, ap_not n fun z => by subst z; rw [hl] at h; cases h⟩
      · exact .inr h)
  | _, _, .ref h => .ref (ap_left h)
  | _, _, .gone h => .gone (ap_left h)
theorem Reps.own1 (hq : ∀ a ∈ q, a ∈ w.p) (hD : D ∈ w.p) (hl : w.H D = some (.lst old)) : ∀ {v : List PV} {u : List V}, Reps K w v u → Reps K (w.own1 D q) v u
  | _, _, .nil => .nil
  | _, _, .cons h r => .cons (Rep.own1 hq hD hl h) (Reps.own1 hq hD hl r)
end
theorem RepD.own1 (hq : ∀ a ∈ q, a ∈ w.p) (hD : D ∈ w.p) (hl : w.H D = some (.lst old)) : ∀ {v : DC} {u : List (List L2.Key × V)}, RepD K w v u → RepD K (w.own1 D q) v u
  | _, _, .nil => .nil
  | _, _, .cons h r => .cons (Rep.own1 hq hD hl h) (RepD.own1 hq hD hl r)
theorem RepF.own1 (hq : ∀ a ∈ q, a ∈ w.p) (hD : D ∈ w.p) (hl : w.H D = some (.lst old)) : ∀ {v : Flds} {u : List (Str × V)}, RepF K w v u → RepF K (w.own1 D q) v u
  | _, _, .nil => .nil
  | _, _, .cons h r => .cons (Rep.own1 hq hD hl h) (RepF.own1 hq hD hl r)
theorem StOk.own1 {st : Sto} {vs : List PV} (h : StOk K w st) (hq : ∀ a ∈ q, a ∈ w.p) (hDq : D ∉ q) (hD : D ∈ w.p) (hl : w.H D = some (.lst old)) (hm : some D ∉ w.m) (r : Reps K w vs old) : StOk K (w.own1 D q) (st ++ [.lst vs]) where
  len := by show (w.m ++ [some D]).length = _; simp [h.len]
  inj := fun l l' a q q' => by
    rcases loc_cases q with z | ⟨z, z2⟩ <;> rcases loc_cases q' with y | ⟨y, y2⟩
    · exact h.inj l l' a z y
    · cases y2; exact absurd (m_mem z) hm
    · cases z2; exact absurd (m_mem y) hm
    · rw [z, y]
  cell := fun l a q' => by
    rcases loc_cases q' with z | ⟨z, z2⟩
    · obtain ⟨c, hc, ok⟩ := h.cell l a z
      refine ⟨c, ?_, ?_⟩
      · rw [List.getElem?_append_left (List.getElem?_eq_some_iff.mp hc).1]; exact hc
      · cases c with
        | dead => exact ok
        | fdc kvs =>
          obtain ⟨o', us, h1, r⟩ := ok
          exact ⟨o', us, h1, r.own1 hq hD hl⟩
        | lst xs =>
          obtain ⟨us, h1, r⟩ := ok
          exact ⟨us, h1, r.own1 hq hD hl⟩
        | obj C fs =>
          obtain ⟨E, dx, us, h0, h1, r⟩ := ok
          exact ⟨E, dx, us, h0, h1, r.own1 hq hD hl⟩
        | dct t kvs =>
          cases t with
          | true =>
            obtain ⟨us, h1, r⟩ := ok
            exact ⟨us, h1, r.own1 hq hD hl⟩
          | false =>
            obtain ⟨us, h1, r⟩ := ok
            exact ⟨us, h1, r.own1 hq hD hl⟩
    · cases z2
      refine ⟨.lst vs, ?_, old, hl, r.own1 hq hD hl⟩
      rw [z, h.len]; simp
  prv := fun a z => h.prv a (hq a z)
  dis := fun a z y => by
    rcases List.mem_append.mp (show some a ∈ w.m ++ [some D] from z) with z | z
    · exact h.dis a z (hq a y)
    · simp at z; subst z; exact hDq y
  gone := fun l z => by
    rcases loc_cases z with z | ⟨_, z2⟩
    · have := h.gone l z
      rw [List.getElem?_append_left (List.getElem?_eq_some_iff.mp this).1]; exact this
    · cases z2
end
theorem x_ncomp {X : Cx} {cl : Nat → Value} {W : WX} {cf : CF} {own : List Nat} {t : Tg} {s : Src} {c : PT} {pe : PX} (hsl : ∀ i ∈ t.slots, i ∈ own) {σ : St} {H : Hp} {Q : VK} (h : rdE X.K cl W cf (.ncomp own t s c pe) σ H Q) :
    tLc (rdI X.K cl W cf s) (rdG X.K t) (rdT X.K cl Wfalse cf c) (rdE X.K cl Wfalse cf pe) own σ H Q := by
  obtain ⟨w, e, st, rfl, he, hs, h⟩ := h
  simp only [ev] at h
  refine ⟨w, e, st, rfl, he, hs, h.bind.mono fun J H1 hQ => ?_⟩
  obtain ⟨w1, items, st1, e1, hw1, hs1, hJ, h1⟩ := hQ
  subst e1
  intro D hD
  by_cases hz : items.length ≤ SZ
  · rw [if_pos hz] at h1
    generalize hf : (fun (x : PV) (st2 : Sto) => match asgT t x (wipeR e own) with
          | none => (Res.stuck : Res (Option PV))
          | some e1 => (evT cf c e1 st2).bind fun b st3 => if b then (ev cf pe e1 st3).bind fun v st4 => .ok (some v) st4 else .ok none st3) = f at h1
    obtain ⟨vs, stF, hall, hQ⟩ : ∃ vs stF, compL f items st1 = .ok vs stF ∧ ∀ w' u, w1.le w' → StOk X.K w' (stF ++ [.lst vs]) → Rep X.K w' (.ref stF.length) u → Q u w'.H := by
      cases q : compL f items st1 with
      | ok vs stF => rw [q] at h1; exact ⟨vs, stF, rfl, h1⟩
      | exc c st => rw [q] at h1; exact h1.elim
      | stuck => rw [q] at h1; exact h1.elim
    exact comp_core hsl he hw1 hs1 hJ hD hz hf hall fun w2 us hw2 hDp hDm hs2 hl ra => by
      have hw : w1.le (w2.own1 D w1.p) := ⟨⟨Nat.le_trans hw2.len (by show _ ≤ (w2.m ++ [some D]).length; simp), fun l a z => by
          rcases hw2.loc l a z with y | y
          · exact .inl (ap_left y)
          · exact .inr (ap_left y), fun l z => ap_left (hw2.dead l z), hw2.keep, fun a z => by
          rcases List.mem_append.mp (show some a ∈ w2.m ++ [some D] from z) with y | y
          · exact hw2.fresh a y
          · simp at y; subst y; exact .inr hD, fun _ z => z, fun _ z => .inl z, hw2.trk⟩, hw2.lck⟩
      exact hQ (w2.own1 D w1.p) (.ref D) hw (hs2.own1 hw2.priv (hs1.newp hD) hDp hl hDm ra) (.ref (by
        show (w2.m ++ [some D])[stF.length]? = _
        rw [← hs2.len]; simp))
  · rw [if_neg hz] at h1
    exact h1.elim
end PL

/-! PL6b: enumerate and zip, over tuples, lists and texts. -/
namespace PL
open PySem L2

/-- what is walked within: a tuple, a list, a text -/
inductive Sk where
  | tup (a : Addr) | lst (a : Addr) | str (z : Str)
noncomputable def Sk.rd (K : PySem.W.Frag) (H : Hp) : Sk → List V → Prop
  | .tup a, us => SqT K H a us
  | .lst a, us => SqL K H a us
  | .str z, us => us = z.cps.toList.map fun c => V.str ⟨#[c]⟩
noncomputable def Sk.v : Sk → V
  | .tup a => .ref a
  | .lst a => .ref a
  | .str z => .str z
noncomputable def Sk.stands (it : Addr) (i : Nat) (h : Heap) : Sk → Prop
  | .tup a => h.IsTupleIter it a i ∧ a ≠ it
  | .lst a => h.IsListIter it a i ∧ a ≠ it
  | .str z => ∃ t, h.IsStrIter it (strIterType z) z t i
noncomputable def Sk.own (it : Addr) : Sk → List Addr
  | .tup a => [it, a]
  | .lst a => [it, a]
  | .str _ => [it]
theorem Sk.mem (it : Addr) (q : Sk) : it ∈ q.own it := by cases q <;> simp [Sk.own]
theorem Sk.obj {it : Addr} {i : Nat} {h : Heap} {q : Sk} (st : q.stands it i h) : ∃ o, h.get? it = some o ∧ ∀ v, o.data ≠ .cell v := by
  cases q with
  | tup a => obtain ⟨⟨o, e, c, d⟩, _⟩ := st; exact ⟨o, e, fun v z => by rw [d] at z; cases z⟩
  | lst a => obtain ⟨⟨o, e, c, d⟩, _⟩ := st; exact ⟨o, e, fun v z => by rw [d] at z; cases z⟩
  | str z => obtain ⟨t, o, e, c, d⟩ := st; exact ⟨o, e, fun v z => by rw [d] at z; cases z⟩
theorem Sk.keep {it : Addr} {i : Nat} {h h' : Heap} {q : Sk} (st : q.stands it i h) (k : ∀ o, h.get? it = some o → h'.get? it = some o) : q.stands it i h' := by
  cases q with
  | tup a => exact ⟨st.1.at fun o e => k o e, st.2⟩
  | lst a => exact ⟨st.1.at fun o e => k o e, st.2⟩
  | str z => obtain ⟨t, o, e, r⟩ := st; exact ⟨t, o, k o e, r⟩
theorem vals_getR : ∀ {xs : List V} {us : List Value} {i : Nat} {u : Value}, Vals xs us → us[i]? = some u → ∃ x, xs[i]? = some x ∧ RelV x u
  | _, _, _, _, .nil, e => by simp at e
  | _, _, 0, _, .cons r _, e => by simp at e; subst e; exact ⟨_, rfl, r⟩
  | _, _, i + 1, u, .cons _ t, e => by
    obtain ⟨x, h1, h2⟩ := vals_getR (i := i) t (by simpa using e)
    exact ⟨x, by simpa using h1, h2⟩
section
variable {X : Cx} {pins : List (Addr × Obj)} {σ : St} {H : Hp} {s : Shared}
theorem Sk.rd_inj (I : Inv X pins σ H s) {q : Sk} {us ws : List V} (h1 : q.rd X.K H us) (h2 : q.rd X.K H ws) : us = ws := by
  cases q with
  | tup a => exact I.tuple_inj h1 h2
  | lst a => exact I.list_inj h1 h2
  | str z => rw [show us = _ from h1, show ws = _ from h2]
theorem sk_draws (I : Inv X pins σ H s) (hc : X.calm = true) {q : Sk} {us : List V} {it : Addr} {i : Nat} (rd : q.rd X.K H us) (h : q.stands it i s.heap) :
    ∃ P St, Draws X.prog X.w X.A.in1 it (q.own it) us.length P St ∧ St i s.heap ∧ (∀ j x, P j x → ∃ v, us[j]? = some v ∧ RelV v x) ∧ ∀ j h, St j h → q.stands it j h := by
  have hh : X.A.in1.handled = none := I.ok.hd hc
  cases q with
  | tup a =>
    obtain ⟨its, rv, p, hz⟩ := I.tuple rd
    have e : us.length = its.toArray.size := by rw [List.size_toArray]; exact rv.length
    rw [e]
    refine ⟨_, _, Draws.tuple hh it a h.2 its.toArray, ⟨h.1, p⟩, fun j x hx => ?_, fun j h' st => ⟨st.1, h.2⟩⟩
    obtain ⟨v, hv, r⟩ := vals_getR rv (by simpa using hx)
    exact ⟨v, hv, r⟩
  | lst a =>
    obtain ⟨its, rv, p, hz⟩ := I.list rd
    have e : us.length = its.toArray.size := by rw [List.size_toArray]; exact rv.length
    rw [e]
    refine ⟨_, _, Draws.list hh it a h.2 its.toArray, ⟨h.1, p.isList⟩, fun j x hx => ?_, fun j h' st => ⟨st.1, h.2⟩⟩
    obtain ⟨v, hv, r⟩ := vals_getR rv (by simpa using hx)
    exact ⟨v, hv, r⟩
  | str z =>
    obtain ⟨t, h⟩ := h
    have e : us.length = z.cps.size := by rw [show us = _ from rd]; simp
    rw [e]
    refine ⟨_, _, Draws.text hh it z t, h, fun j x hx => ?_, fun j h' st => ⟨t, st⟩⟩
    obtain ⟨c, u, hcx, rfl⟩ := hx
    refine ⟨.str ⟨#[c]⟩, ?_, u, rfl⟩
    rw [show us = _ from rd, List.getElem?_map, Array.getElem?_toList, hcx]; rfl
end
/-! enumerate -/
noncomputable def ItE (K : PySem.W.Frag) (q : Sk) : It :=
  ⟨fun i H => ∃ (us : List V) (x : V), q.rd K H us ∧ us[i]? = some x,
    fun i H v H' => ∃ T x, v = .ref T ∧ H T = none ∧ H' = upd H T (.tup [.int (i : Nat), x]) ∧ ∀ us, q.rd K H us → us[i]? = some x,
    fun i H => ∃ us : List V, q.rd K H us ∧ us.length = i⟩
theorem turn_enumG {P : Program} {w : World} {K : PySem.W.Frag} {elts : List Expr} {kk : Nat} {tpos : Pos} (q : Sk) (e it : Addr) (hne : e ≠ it) (hef : e ∉ q.own it) :
    Turn P w K (.Tuple elts kk tpos) (ItE K q) [e, it] e (fun i h => (∃ old, IsEnum h e it ((i : Nat) : Int) old) ∧ q.stands it i h) where
  mem := by simp
  obj := fun i h st b hb => by
    obtain ⟨⟨old, he⟩, hs⟩ := st
    have e' : b = e ∨ b = it := by simpa using hb
    rcases e' with z | z
    · rw [z]; exact ⟨_, he, fun v q => nomatch q⟩
    · rw [z]; exact Sk.obj hs
  keep := fun i h h' st k => let ⟨⟨old, he⟩, hi⟩ := st; ⟨⟨old, k e (by simp) _ he⟩, Sk.keep hi fun o q => k it (by simp) o q⟩
  item := by
    intro X hP hw hK hc i pins s σ H E I hf st hg
    subst hP hw hK
    obtain ⟨⟨old, he⟩, hs⟩ := st
    obtain ⟨us, x, hq, hx⟩ := hg
    have hel : e < s.heap.objs.size := Heap.lt_size he
    have hil : it < s.heap.objs.size := by obtain ⟨o, q1, _⟩ := Sk.obj hs; exact Heap.lt_size q1
    obtain ⟨P, St, D, hst, hP, hat⟩ := sk_draws I hc hq hs
    have hlt : i < us.length := (List.getElem?_eq_some_iff.mp hx).1
    refine wpAny_pyNext_enum_itemD D he hst hlt hne hef fun u h' tk hPu ho hst' hT hsz hk => ?_
    obtain ⟨x', hx', ru⟩ := hP i u hPu
    rw [hx] at hx'
    cases hx'
    refine ⟨_, rfl, wpAny_letOwnedTupleGo_enum (s := { s with heap := h', toks := tk + 1 }) ho fun h'' he' sb => ?_⟩
    have hT2 : h''.get? s.heap.objs.size = some { cls := .type "tuple", data := .seq #[.int i tk, u] } := (sb.2 _ (Nat.ne_of_gt hel)).trans hT
    have new : ObjOk X.prog X.w (upd H s.heap.objs.size (.tup [.int (i : Nat), x])) h'' s.heap.objs.size (.tup [.int (i : Nat), x]) :=
      ⟨by show 2 ≤ sizeLine; decide, [.int i tk, u], .cons ⟨_, rfl⟩ (.cons ru .nil), ⟨_, hT2, rfl, _, rfl⟩⟩
    have I1 : Inv X pins σ (upd H s.heap.objs.size (.tup [.int (i : Nat), x])) { s with heap := h'', toks := tk + 1 } :=
      I.turnedNew (ch := [e, it]) (fun b ob hb q => (sb.2 b (fun z => hb (by simp [z]))).trans (hk b ob (fun z => hb (by simp [z])) (fun z => hb (by simp [z])) q)) hf (Nat.le_refl _) new
    refine ⟨.ref s.heap.objs.size, _, I1, rfl, ⟨_, x, rfl, I.hok.fresh (Nat.le_refl _), rfl, fun ys hy => by rw [Sk.rd_inj I hy hq]; exact hx⟩, ⟨⟨u, ?_⟩, Sk.keep (hat _ _ hst') fun o q => (sb.2 it (Ne.symm hne)).trans q⟩, fun b hb => ?_⟩
    · have e1 : ((i + 1 : Nat) : Int) = (i : Int) + 1 := by omega
      rw [e1]; exact he'
    · have hb' : b < s.heap.objs.size := by
        have e' : b = e ∨ b = it := by simpa using hb
        rcases e' with z | z
        · rw [z]; exact hel
        · rw [z]; exact hil
      rw [upd_ne (Nat.ne_of_lt hb')]
      exact (hf b hb).1
  done := by
    intro X hP hw hK hc i pins s σ H E I hf st hg
    subst hP hw hK
    obtain ⟨⟨old, he⟩, hs⟩ := st
    obtain ⟨us, hq, rfl⟩ := hg
    obtain ⟨P, St, D, hst, hP, hat⟩ := sk_draws I hc hq hs
    obtain ⟨f0, f1, f2, f3, f4, f5⟩ := hf it (by simp)
    exact wpAny_pyNext_enum_endD D he hst fun h' eb => ⟨rfl, I.turned (t' := s.toks) (fun b o hb q => eb b o hb q) f0 f1 f3 f4 f5⟩
  self := fun A i s Q E st h => let ⟨⟨_, he⟩, _⟩ := st; wpAny_pyIter_enum he h
/-! zip -/
noncomputable def ItZ (K : PySem.W.Frag) (q r : Sk) : It :=
  ⟨fun i H => ∃ (us ws : List V) (x y : V), q.rd K H us ∧ r.rd K H ws ∧ us[i]? = some x ∧ ws[i]? = some y,
    fun i H v H' => ∃ T x y, v = .ref T ∧ H T = none ∧ H' = upd H T (.tup [x, y]) ∧ (∀ us, q.rd K H us → us[i]? = some x) ∧ ∀ ws, r.rd K H ws → ws[i]? = some y,
    fun i H => ∃ us ws : List V, q.rd K H us ∧ r.rd K H ws ∧ i = min us.length ws.length⟩
theorem turn_zipG {P : Program} {w : World} {K : PySem.W.Frag} {elts : List Expr} {kk : Nat} {tpos : Pos} (q r : Sk) {z TI TO i1 i2 : Addr} (S : ZipSep2 z TI TO i1 i2 (q.own i1) (r.own i2)) :
    Turn P w K (.Tuple elts kk tpos) (ItZ K q r) [z, TI, TO, i1, i2] z (fun i h => IsZip h z TI TO .none ∧ IsTupOf2 h TI (.ref i1) (.ref i2) ∧ (∃ x y, IsTupOf2 h TO x y) ∧ q.stands i1 i h ∧ r.stands i2 i h) where
  mem := by simp
  obj := fun i h st c hc => by
    obtain ⟨hz, hTI, ⟨x, y, hTO⟩, s1, s2⟩ := st
    have e' : c = z ∨ c = TI ∨ c = TO ∨ c = i1 ∨ c = i2 := by simpa using hc
    rcases e' with q | q | q | q | q
    · rw [q]; exact ⟨_, hz, fun v q => nomatch q⟩
    · rw [q]; exact ⟨_, hTI, fun v q => nomatch q⟩
    · rw [q]; exact ⟨_, hTO, fun v q => nomatch q⟩
    · rw [q]; exact Sk.obj s1
    · rw [q]; exact Sk.obj s2
  keep := fun i h h' st k => by
    obtain ⟨hz, hTI, ⟨x, y, hTO⟩, h1, h2⟩ := st
    exact ⟨k z (by simp) _ hz, k TI (by simp) _ hTI, ⟨x, y, k TO (by simp) _ hTO⟩, Sk.keep h1 fun o q => k i1 (by simp) o q, Sk.keep h2 fun o q => k i2 (by simp) o q⟩
  item := by
    intro X hP hw hK hc i pins s σ H E I hf st hg
    subst hP hw hK
    obtain ⟨hz, hTI, ⟨x0, y0, hTO⟩, s1, s2⟩ := st
    obtain ⟨us, ws, x, y, hqx, hqy, hx, hy⟩ := hg
    obtain ⟨P1, St1, D1, st1, hP1, hat1⟩ := sk_draws I hc hqx s1
    obtain ⟨P2, St2, D2, st2, hP2, hat2⟩ := sk_draws I hc hqy s2
    have hl1 : i < us.length := (List.getElem?_eq_some_iff.mp hx).1
    have hl2 : i < ws.length := (List.getElem?_eq_some_iff.mp hy).1
    have hzl : z < s.heap.objs.size := Heap.lt_size hz
    refine wpAny_pyNext_zipD2_item S D1 D2 hz hTI hTO st1 st2 hl1 hl2 fun u u2 h' tk p1 p2 z' TO' n1 n2 hT hsz hk => ?_
    obtain ⟨x', hx', ru⟩ := hP1 i u p1
    rw [hx] at hx'; cases hx'
    obtain ⟨y', hy', ru2⟩ := hP2 i u2 p2
    rw [hy] at hy'; cases hy'
    refine ⟨_, rfl, wpAny_letOwnedTupleGo_zip (s := { s with heap := h', toks := tk }) z' fun h'' z'' sb => ?_⟩
    have hT2 : h''.get? s.heap.objs.size = some { cls := .type "tuple", data := .seq #[u, u2] } := (sb.2 _ (Nat.ne_of_gt hzl)).trans hT
    have new : ObjOk X.prog X.w (upd H s.heap.objs.size (.tup [x, y])) h'' s.heap.objs.size (.tup [x, y]) :=
      ⟨by show 2 ≤ sizeLine; decide, [u, u2], .cons ru (.cons ru2 .nil), ⟨_, hT2, rfl, _, rfl⟩⟩
    have I1 : Inv X pins σ (upd H s.heap.objs.size (.tup [x, y])) { s with heap := h'', toks := tk } :=
      I.turnedNew (t' := tk) (ch := [z, TI, TO, i1, i2]) (fun c o hb q => (sb.2 c (fun q' => hb (by simp [q']))).trans (hk c o (fun q' => hb (by simp [q'])) (fun q' => hb (by simp [q'])) (fun q' => hb (by simp [q'])) (fun q' => hb (by simp [q'])) q)) hf (Nat.le_refl _) new
    have zi1 : i1 ≠ z := S.zi1.symm
    have zi2 : i2 ≠ z := S.zi2.symm
    refine ⟨.ref s.heap.objs.size, _, I1, rfl, ⟨_, x, y, rfl, I.hok.fresh (Nat.le_refl _), rfl, fun l hl => by rw [Sk.rd_inj I hl hqx]; exact hx, fun l hl => by rw [Sk.rd_inj I hl hqy]; exact hy⟩, ⟨z'', ?_, ⟨u, u2, ?_⟩, ?_, ?_⟩, fun c hcm => ?_⟩
    · exact (sb.2 _ S.TIz).trans (hk _ _ S.TIz S.TITO S.TIi1 S.TIi2 hTI)
    · exact (sb.2 _ S.TOz).trans TO'
    · exact Sk.keep (hat1 _ _ n1) fun o q => (sb.2 _ zi1).trans q
    · exact Sk.keep (hat2 _ _ n2) fun o q => (sb.2 _ zi2).trans q
    · have hlt : c < s.heap.objs.size := by
        have e' : c = z ∨ c = TI ∨ c = TO ∨ c = i1 ∨ c = i2 := by simpa using hcm
        rcases e' with q | q | q | q | q
        · rw [q]; exact hzl
        · rw [q]; exact Heap.lt_size hTI
        · rw [q]; exact Heap.lt_size hTO
        · rw [q]; obtain ⟨_, e1, _⟩ := Sk.obj s1; exact Heap.lt_size e1
        · rw [q]; obtain ⟨_, e2, _⟩ := Sk.obj s2; exact Heap.lt_size e2
      rw [upd_ne (Nat.ne_of_lt hlt)]
      exact (hf c hcm).1
  done := by
    intro X hP hw hK hc i pins s σ H E I hf st hg
    subst hP hw hK
    obtain ⟨hz, hTI, ⟨x0, y0, hTO⟩, s1, s2⟩ := st
    obtain ⟨us, ws, hqx, hqy, hend⟩ := hg
    obtain ⟨P1, St1, D1, st1, hP1, hat1⟩ := sk_draws I hc hqx s1
    obtain ⟨P2, St2, D2, st2, hP2, hat2⟩ := sk_draws I hc hqy s2
    exact wpAny_pyNext_zipD2_end S D1 D2 hz hTI hTO st1 st2 (by omega) (by omega) (by omega) fun h' tk hk => ⟨rfl, I.turnedL (t' := tk) (ch := [z, TI, TO, i1, i2]) (fun c o hb q =>
      hk c o (fun q' => hb (by simp [q'])) (fun q' => hb (by simp [q'])) (fun q' => hb (by simp [q'])) (fun q' => hb (by simp [q'])) q) hf⟩
  self := fun A i s Q E st h => wpAny_pyIter_zip st.1 h
/-! they begin -/
/-- the iterator's object at the start -/
noncomputable def Sk.o (v : Value) : Sk → Obj
  | .tup a => { cls := .type "tuple_iterator", data := .fields #[.ref a, .int 0 0] }
  | .lst a => { cls := .type "list_iterator", data := .fields #[.ref a, .int 0 0] }
  | .str z => { cls := .type (strIterType z), data := .fields #[v, .int 0 0] }
theorem sk_begins {X : Cx} {pins : List (Addr × Obj)} {σ : St} {H : Hp} {s : Shared} (I : Inv X pins σ H s) {q : Sk} {us : List V} (rd : q.rd X.K H us) {v : Value} (r : RelV q.v v) :
    ∃ B, Begins v (q.o v) B ∧ B s.heap ∧ (∀ it, ∀ b ∈ q.own it, b = it ∨ b < s.heap.objs.size) ∧ ∀ it h', h'.get? it = some (q.o v) → s.heap.objs.size ≤ it → q.stands it 0 h' := by
  cases q with
  | tup a =>
    cases r
    obtain ⟨its, rv, p, hz⟩ := I.tuple rd
    have hlt : a < s.heap.objs.size := by obtain ⟨o, e, _⟩ := p; exact Heap.lt_size e
    refine ⟨_, begins_tuple a its.toArray, p, fun it b hb => ?_, fun it h' g hi => ⟨⟨_, g, rfl, rfl⟩, Nat.ne_of_lt (Nat.lt_of_lt_of_le hlt hi)⟩⟩
    simp only [Sk.own, List.mem_cons, List.not_mem_nil, or_false] at hb
    rcases hb with z | z
    · exact .inl z
    · rw [z]; exact .inr hlt
  | lst a =>
    cases r
    obtain ⟨its, rv, p, hz⟩ := I.list rd
    have hlt : a < s.heap.objs.size := by obtain ⟨o, n, e, _⟩ := p; exact Heap.lt_size e
    refine ⟨_, begins_list a its.toArray, p.isList, fun it b hb => ?_, fun it h' g hi => ⟨⟨_, g, rfl, rfl⟩, Nat.ne_of_lt (Nat.lt_of_lt_of_le hlt hi)⟩⟩
    simp only [Sk.own, List.mem_cons, List.not_mem_nil, or_false] at hb
    rcases hb with z | z
    · exact .inl z
    · rw [z]; exact .inr hlt
  | str z =>
    obtain ⟨t, rfl⟩ := r
    refine ⟨_, begins_text z t, trivial, fun it b hb => ?_, fun it h' g hi => ⟨t, _, g, rfl, rfl⟩⟩
    simp only [Sk.own, List.mem_cons, List.not_mem_nil, or_false] at hb
    exact .inl hb
set_option maxHeartbeats 1000000 in
theorem meets_enum1 {v : Value} {o : Obj} {B : Heap → Prop} (G : Begins v o B) :
    Meets (Builtin.«enumerate.__new__» ⟨[.type "enumerate", v], []⟩) (fun _ R s => B s.heap ∧
      R (.ok (.ret (.ref (s.heap.push o).objs.size))) { s with heap := (s.heap.push o).push { cls := .type "enumerate", data := .fields #[.none, .bool false, .ref s.heap.objs.size, rawInt 0, .none, .none] } }) :=
  .of_wp fun prog w A R s h => by
    obtain ⟨hp, g, d, tk, os⟩ := s; obtain ⟨h1, h⟩ := h
    have hsub := sub_enumerate
    have q1 : ∀ {A' : Around} {E : Value → Shared → Prop} {Q : Value → Shared → Prop}, Q (.ref hp.objs.size) ⟨hp.push o, g, d, tk, os⟩ → wpAny (model prog w) A' (pyIter v) Q E ⟨hp, g, d, tk, os⟩ :=
      fun q => G.iter prog w _ _ ⟨hp, g, d, tk, os⟩ _ h1 q
    wp_walk using q1
    refine wpAny_stack_any fun st => wpAny_pure ?_
    split
    · rename_i c _ _ _ _ _
      cases (c == Value.type "enumerate")
      · wp_walk using q1
        exact ⟨_, rfl, h⟩
      · wp_walk using q1
        exact ⟨_, rfl, h⟩
    · wp_walk using q1
      exact ⟨_, rfl, h⟩
theorem enum_begins1 {prog : Program} {w : World} {A : Around} {E : Value → Shared → Prop} {s : Shared} {v : Value} {o : Obj} {B : Heap → Prop} {Q : Value → Shared → Prop} (G : Begins v o B) (h1 : B s.heap)
    (h : ∀ h', IsEnum h' (s.heap.objs.size + 1) s.heap.objs.size 0 .none → h'.get? s.heap.objs.size = some o → h'.objs.size = s.heap.objs.size + 2 →
      (∀ b o, s.heap.get? b = some o → h'.get? b = some o) → Q (.ref (s.heap.objs.size + 1)) { s with heap := h' }) :
    wpAny (model prog w) A (call (.type "enumerate") [v]) Q E s := by
  refine callType_new F.called_enumerate (by decide) (F.typeCall_enumerate_1 _) (F.newCall_enumerate_1 _) (fun obj => F.args_object_init_2 obj _) F.entry_enumerate_new (meets_enum1 G) ⟨h1, ?_⟩
  have hz : (s.heap.push o).objs.size = s.heap.objs.size + 1 := Heap.size_push ..
  show _ ∧ _
  rw [hz]
  have he : IsEnum ((s.heap.push o).push { cls := .type "enumerate", data := .fields #[.none, .bool false, .ref s.heap.objs.size, rawInt 0, .none, .none] }) (s.heap.objs.size + 1) s.heap.objs.size 0 .none := by
    have := Heap.get?_push_size (s.heap.push o) (o := { cls := .type "enumerate", data := .fields #[.none, .bool false, .ref s.heap.objs.size, rawInt 0, .none, .none] }) rfl
    rw [hz] at this; exact this
  exact ⟨⟨_, he, rfl⟩, h _ he (Heap.get?_push_of_some _ (Heap.get?_push_size _ G.free)) (by rw [Heap.size_push, hz]) fun b o x => Heap.get?_push_of_some _ (Heap.get?_push_of_some _ x)⟩
/-! what the evaluator walks -/
theorem enumL_get : ∀ (items : List PV) (k i : Nat), (enumL k items)[i]? = items[i]?.map fun x => .tup [.int ((k + i : Nat) : Int), x]
  | [], _, _ => by simp [enumL]
  | x :: r, k, 0 => by simp [enumL]
  | x :: r, k, i + 1 => by
    rw [enumL, List.getElem?_cons_succ, enumL_get r (k + 1) i, List.getElem?_cons_succ, show k + 1 + i = k + (i + 1) by omega]
theorem enumL_len : ∀ (items : List PV) (k : Nat), (enumL k items).length = items.length
  | [], _ => rfl
  | x :: r, k => by rw [enumL, List.length_cons, enumL_len r, List.length_cons]
theorem zipL_get : ∀ (xs ys : List PV) (i : Nat) (x y : PV), xs[i]? = some x → ys[i]? = some y → (zipL xs ys)[i]? = some (.tup [x, y])
  | [], _, _, _, _, h, _ => by simp at h
  | _ :: _, [], _, _, _, _, h => by simp at h
  | a :: r, b :: s, 0, x, y, h, h' => by simp at h h'; subst h h'; rfl
  | a :: r, b :: s, i + 1, x, y, h, h' => by
    rw [zipL, List.getElem?_cons_succ]
    exact zipL_get r s i x y (by simpa using h) (by simpa using h')
theorem zipL_len : ∀ (xs ys : List PV), (zipL xs ys).length = min xs.length ys.length
  | [], _ => by simp [zipL]
  | _ :: _, [] => by simp [zipL]
  | a :: r, b :: s => by rw [zipL, List.length_cons, zipL_len r s]; simp only [List.length_cons]; omega
theorem Reps.signs {K : PySem.W.Frag} {w : Wd} : ∀ cs : List Nat, Reps K w (cs.map fun c => .str [c]) (cs.map fun c => V.str ⟨#[c]⟩)
  | [] => .nil
  | c :: r => .cons (Rep.ofStr (by show 1 ≤ sizeLine; decide)) (Reps.signs r)
/-- a walked value by its kind -/
theorem sk_of {K : PySem.W.Frag} {w : Wd} {v : PV} {x : V} {items : List PV} (r : Rep K w v x) (h : itV v = some items) : ∃ (q : Sk) (us : List V), q.v = x ∧ (∀ w2, w.le w2 → q.rd K w2.H us) ∧ Reps K w items us := by
  cases r with
  | str z hz =>
    simp only [itV, Option.some.injEq] at h
    subst h
    exact ⟨.str z, _, rfl, fun w2 _ => rfl, Reps.signs _⟩
  | tup h2 q2 =>
    simp only [itV, Option.some.injEq] at h
    subst h
    exact ⟨.tup _, _, rfl, fun w2 hw => (h2.mono hw).sq, q2⟩
  | lst h2 n2 q2 =>
    simp only [itV, Option.some.injEq] at h
    subst h
    exact ⟨.lst _, _, rfl, fun w2 hw => SqL.of (hw.keep _ _ h2 n2.1), q2⟩
  | _ => simp [itV] at h
theorem Rep.pair {K : PySem.W.Frag} {w : Wd} {st : Sto} {a b : PV} {x y : V} {T : Addr} (hs : StOk K w st) (e : w.H T = none) (ra : Rep K w a x) (rb : Rep K w b y) : Rep K (w.put T (.tup [x, y])) (.tup [a, b]) (.ref T) :=
  .tup (.inl ⟨upd_same, hs.new e⟩) (.cons (ra.mono (Wd.put_le e)) (.cons (rb.mono (Wd.put_le e)) .nil))
theorem isIt_enum {K : PySem.W.Frag} {w : Wd} {items : List PV} {us : List V} {q : Sk} (hq : ∀ w2, w.le w2 → q.rd K w2.H us) (r : Reps K w items us) : IsIt K w (enumL 0 items) (ItE K q) := fun w2 st2 hw hs => by
  rw [enumL_len]
  refine ⟨fun i hi => ?_, us, hq w2 hw, r.length.symm⟩
  obtain ⟨u, hu, ru⟩ := (r.mono hw).get (List.getElem?_eq_getElem hi)
  refine ⟨⟨us, u, hq w2 hw, hu⟩, fun x H' hy => ?_⟩
  obtain ⟨T, x', rfl, hT, rfl, hx⟩ := hy
  have e := hx us (hq w2 hw)
  rw [hu] at e
  cases e
  refine ⟨w2.put T (.tup [.int (i : Nat), u]), .tup [.int (i : Int), items[i]], rfl, Wd.put_le hT, hs.put hT, ?_, Rep.pair hs hT (.int _) ru⟩
  rw [enumL_get, List.getElem?_eq_getElem hi]
  simp
theorem isIt_zip {K : PySem.W.Frag} {w : Wd} {xs ys : List PV} {us ws : List V} {q r : Sk} (hq : ∀ w2, w.le w2 → q.rd K w2.H us) (rq : Reps K w xs us) (hr : ∀ w2, w.le w2 → r.rd K w2.H ws) (rr : Reps K w ys ws) : IsIt K w (zipL xs ys) (ItZ K q r) := fun w2 st2 hw hs => by
  rw [zipL_len]
  refine ⟨fun i hi => ?_, us, ws, hq w2 hw, hr w2 hw, by rw [rq.length, rr.length]⟩
  have hi1 : i < xs.length := by omega
  have hi2 : i < ys.length := by omega
  obtain ⟨u, hu, ru⟩ := (rq.mono hw).get (List.getElem?_eq_getElem hi1)
  obtain ⟨u2, hu2, ru2⟩ := (rr.mono hw).get (List.getElem?_eq_getElem hi2)
  refine ⟨⟨us, ws, u, u2, hq w2 hw, hr w2 hw, hu, hu2⟩, fun x H' hy => ?_⟩
  obtain ⟨T, x', y', rfl, hT, rfl, hx, hy⟩ := hy
  have e := hx us (hq w2 hw)
  rw [hu] at e
  cases e
  have e := hy ws (hr w2 hw)
  rw [hu2] at e
  cases e
  exact ⟨w2.put T (.tup [u, u2]), .tup [xs[i], ys[i]], rfl, Wd.put_le hT, hs.put hT, zipL_get xs ys i _ _ (List.getElem?_eq_getElem hi1) (List.getElem?_eq_getElem hi2), Rep.pair hs hT ru ru2⟩
section
variable {X : Cx} {cl : Nat → Value} {W : WX} {cf : CF} {k : Nat} {pos p tpos : Pos} {a b : Expr} {pa pb : PX} {elts : List Expr} {kk : Nat}
theorem x_enum (hg : Gl X "enumerate") (hm : X.mg "enumerate" = none) (ha : L2.PE X a (rdE X.K cl W cf pa)) (hs : starEach [a] X.env = [(false, eval a X.env)]) :
    PI X (.Tuple elts kk tpos) (.Call (.Name "enumerate" p) [a] [] pos) (rdI X.K cl W cf (.enum pa)) := by
  refine ⟨fun pins s σ H R I h => ?_⟩
  obtain ⟨w, e, st, rfl, he, hs', h⟩ := h
  simp only [evI] at h
  have hA : rdA X.K cl W cf (.cons pa .nil) σ w.H (fun xs H1 => ∃ (w1 : Wd) (items : List PV) (st1 : Sto) (v1 : PV) (x : V), xs = [x] ∧ w1.H = H1 ∧ StOk X.K w1 st1 ∧ Rep X.K w1 v1 x ∧ itV v1 = some items ∧ ∀ J, IsIt X.K w1 (enumL 0 items) J → R J H1) := by
    refine ⟨w, e, st, rfl, he, hs', ?_⟩
    simp only [evs]
    cases q : ev cf pa e st with
    | ok v st1 =>
      rw [q] at h
      simp only [Res.bind_ok] at h ⊢
      intro w1 us hw1 hs1 r1
      obtain ⟨u, rfl, ru⟩ := r1.one
      obtain ⟨its, q2, h⟩ := h.ofO
      rw [Option.map_eq_some_iff] at q2
      obtain ⟨items, q2, rfl⟩ := q2
      exact ⟨w1, items, st1, v, u, rfl, rfl, hs1, ru, q2, fun J hJ => h w1 J hw1 hs1 hJ⟩
    | exc c st1 => rw [q] at h; exact h
    | stuck => rw [q] at h; exact h.elim
  refine PyProof.Rows.Call_ (ld_blt I hg hm PyProof.Rows.boot_enumerate (PyProof.Rows.callWith_type1 (thn ((x_cons ha x_nil hs).run pos pins s σ w.H _ I hA) fun us s1 ⟨vs, H1, I1, r1, q1⟩ => ?_) hs rfl))
  obtain ⟨w1, items, st1, v1, x, rfl, rfl, hs1, rx, hi, g⟩ := q1
  obtain ⟨q, ws, rfl, hq, rq⟩ := sk_of rx hi
  cases r1 with
  | cons r rr =>
    cases rr
    obtain ⟨B, G, hB, hown, hstand⟩ := sk_begins I1 (hq w1 (.refl w1)) r
    refine enum_begins1 G hB fun h' he hit hsz hk => wpAny_pyIter_enum he ?_
    have I2 : Inv X pins σ w1.H { s1 with heap := h' } := I1.kept (t' := s1.toks) hk
    refine ⟨s1.heap.objs.size + 1, [s1.heap.objs.size + 1, s1.heap.objs.size], _, _, w1.H, rfl, I2, turn_enumG q (s1.heap.objs.size + 1) s1.heap.objs.size (Nat.succ_ne_self _) (fun z => ?_), ⟨⟨.none, he⟩, hstand _ _ hit (Nat.le_refl _)⟩, fun b hb => ?_, g _ (isIt_enum hq rq)⟩
    · rcases hown _ _ z with y | y
      · exact Nat.succ_ne_self _ y
      · exact absurd y (Nat.not_lt.mpr (Nat.le_succ _))
    · have e' : b = s1.heap.objs.size + 1 ∨ b = s1.heap.objs.size := by simpa using hb
      have hle : s1.heap.objs.size ≤ b := by
        rcases e' with z | z
        · rw [z]; exact Nat.le_add_right _ _
        · rw [z]; exact Nat.le_refl _
      exact I1.fpOk hle (I1.hok.fresh hle)
theorem x_zip (hg : Gl X "zip") (hm : X.mg "zip" = none) (ha : L2.PE X a (rdE X.K cl W cf pa)) (hb : L2.PE X b (rdE X.K cl W cf pb)) (hs : starEach [a, b] X.env = (false, eval a X.env) :: starEach [b] X.env) (hs2 : starEach [b] X.env = (false, eval b X.env) :: starEach [] X.env)
    (hpl : (backTo pos (starEach [b] X.env)).any (·.1) = false) : PI X (.Tuple elts kk tpos) (.Call (.Name "zip" p) [a, b] [] pos) (rdI X.K cl W cf (.zip pa pb)) := by
  refine ⟨fun pins s σ H R I h => ?_⟩
  obtain ⟨w, e, st, rfl, he, hs', h⟩ := h
  simp only [evI] at h
  have hA : rdA X.K cl W cf (.cons pa (.cons pb .nil)) σ w.H (fun xs H1 => ∃ (w1 : Wd) (xs1 xs2 : List PV) (st1 : Sto) (v1 v2 : PV) (x y : V), xs = [x, y] ∧ w1.H = H1 ∧ StOk X.K w1 st1 ∧ Rep X.K w1 v1 x ∧ Rep X.K w1 v2 y ∧ itV v1 = some xs1 ∧ itV v2 = some xs2 ∧ ∀ J, IsIt X.K w1 (zipL xs1 xs2) J → R J H1) := by
    refine ⟨w, e, st, rfl, he, hs', ?_⟩
    simp only [evs]
    cases q : ev cf pa e st with
    | ok v st1 =>
      rw [q] at h
      simp only [Res.bind_ok] at h ⊢
      cases q3 : ev cf pb e st1 with
      | ok v2 st2 =>
        rw [q3] at h
        simp only [Res.bind_ok] at h ⊢
        intro w1 us hw1 hs1 r1
        obtain ⟨u, u2, rfl, ru, ru2⟩ := r1.two
        obtain ⟨its, q2, h⟩ := h.ofO
        rw [Option.bind_eq_some_iff] at q2
        obtain ⟨xs1, q4, q2⟩ := q2
        rw [Option.map_eq_some_iff] at q2
        obtain ⟨xs2, q5, rfl⟩ := q2
        exact ⟨w1, xs1, xs2, st2, v, v2, u, u2, rfl, rfl, hs1, ru, ru2, q4, q5, fun J hJ => h w1 J hw1 hs1 hJ⟩
      | exc c st2 => rw [q3] at h; exact h
      | stuck => rw [q3] at h; exact h.elim
    | exc c st1 => rw [q] at h; exact h
    | stuck => rw [q] at h; exact h.elim
  refine PyProof.Rows.Call_ (ld_blt I hg hm PyProof.Rows.boot_zip (PyProof.Rows.callWith_type1 (thn ((x_cons ha (x_cons hb x_nil hs2) hs).run pos pins s σ w.H _ I hA) fun us s1 ⟨vs, H1, I1, r1, q1⟩ => ?_) hs hpl))
  obtain ⟨w1, xs1, xs2, st1, v1, v2, x, y, rfl, rfl, hs1, rx, ry, hi1, hi2, g⟩ := q1
  obtain ⟨q, ws, rfl, hq, rq⟩ := sk_of rx hi1
  obtain ⟨r, ws2, rfl, hr, rr2⟩ := sk_of ry hi2
  cases r1 with
  | cons r1 rr =>
    cases rr with
    | cons r2 rr =>
      cases rr
      obtain ⟨B1, G1, hB1, hown1, hst1⟩ := sk_begins I1 (hq w1 (.refl w1)) r1
      obtain ⟨B2, G2, hB2, hown2, hst2⟩ := sk_begins I1 (hr w1 (.refl w1)) r2
      refine zip_begins2 G1 G2 hB1 hB2 fun h' hz hTI hTO g1 g2 hsz hk => wpAny_pyIter_zip hz ?_
      have I2 : Inv X pins σ w1.H { s1 with heap := h' } := I1.kept (t' := s1.toks) hk
      have n1 : ∀ c, s1.heap.objs.size < c → c ∉ q.own s1.heap.objs.size := fun c hc z => by
        rcases hown1 _ _ z with y | y
        · rw [y] at hc; exact Nat.lt_irrefl _ hc
        · exact Nat.lt_irrefl _ (Nat.lt_trans y hc)
      have n2 : ∀ c, s1.heap.objs.size ≤ c → c ≠ s1.heap.objs.size + 1 → c ∉ r.own (s1.heap.objs.size + 1) := fun c hc hn z => by
        rcases hown2 _ _ z with y | y
        · exact hn y
        · exact Nat.lt_irrefl _ (Nat.lt_of_lt_of_le y hc)
      have S : ZipSep2 (s1.heap.objs.size + 4) (s1.heap.objs.size + 2) (s1.heap.objs.size + 3) s1.heap.objs.size (s1.heap.objs.size + 1) (q.own s1.heap.objs.size) (r.own (s1.heap.objs.size + 1)) :=
        ⟨by simp, by simp, by simp, by simp, Sk.mem _ _, n1 _ (by simp), n1 _ (by simp), by simp, Sk.mem _ _, n2 _ (by simp) (by simp), n2 _ (by simp) (by simp), n2 _ (Nat.le_refl _) (by simp), n1 _ (by simp)⟩
      refine ⟨s1.heap.objs.size + 4, [s1.heap.objs.size + 4, s1.heap.objs.size + 2, s1.heap.objs.size + 3, s1.heap.objs.size, s1.heap.objs.size + 1], _, _, w1.H, rfl, I2, turn_zipG q r S, ⟨hz, hTI, ⟨_, _, hTO⟩, hst1 _ _ g1 (Nat.le_refl _), hst2 _ _ g2 (Nat.le_succ _)⟩, fun b hb => ?_, g _ (isIt_zip hq rq hr rr2)⟩
      have hle : s1.heap.objs.size ≤ b := by
        have e' : b = s1.heap.objs.size + 4 ∨ b = s1.heap.objs.size + 2 ∨ b = s1.heap.objs.size + 3 ∨ b = s1.heap.objs.size ∨ b = s1.heap.objs.size + 1 := by simpa using hb
        rcases e' with z | z | z | z | z <;> rw [z] <;> first | exact Nat.le_refl _ | exact Nat.le_add_right _ _
      exact I1.fpOk hle (I1.hok.fresh hle)
end
/-! isinstance -/
noncomputable def Ty.nm : Ty → String
  | .int => "int" | .str => "str" | .bool => "bool" | .tuple => "tuple"
theorem Ty.boot (t : Ty) : bootBuiltins t.name = some (.type t.nm) := by cases t <;> decide +kernel
theorem Ty.ok1 (t : Ty) : t.name ≠ "__name__" := by cases t <;> decide
theorem Ty.ok2 (t : Ty) : (t.name == ("__debug__" : Str)) = false := by cases t <;> decide
theorem kit_isi {K : PySem.W.Frag} {a : String} {t : Ty} {r : Bool} (h : kitB a t.nm = some r) : PySem.W.kitOne K (.type a) (.type t.nm) = some r := kit_ty h
theorem isi_ty {K : PySem.W.Frag} {w : Wd} {v : PV} {x : V} (r : RepW K w v x) {t : Ty} {b : Bool} (h : isiB v t = some b) : ∃ a, TyX K w.H x (.type a) ∧ ∀ u : Ty, ∀ c, isiB v u = some c → kitB a u.nm = some c := by
  rcases r with r | ⟨xs, a, us, rfl, rfl, hl, _⟩
  case inr =>
    exact ⟨"list", .base (.lst hl), fun u c hc => by simp only [isiB, Option.some.injEq] at hc; subst hc; cases u <;> decide +kernel⟩
  cases r with
  | non => exact ⟨"NoneType", .base .non, fun u c hc => by simp only [isiB, Option.some.injEq] at hc; subst hc; cases u <;> decide +kernel⟩
  | bl y => exact ⟨"bool", .base (.bl y), fun u c hc => by simp only [isiB, Option.some.injEq] at hc; subst hc; cases u <;> decide +kernel⟩
  | int i => exact ⟨"int", .base (.int i), fun u c hc => by simp only [isiB, Option.some.injEq] at hc; subst hc; cases u <;> decide +kernel⟩
  | str z hz => exact ⟨"str", .base (.str z), fun u c hc => by simp only [isiB, Option.some.injEq] at hc; subst hc; cases u <;> decide +kernel⟩
  | tup hq _ =>
    refine ⟨"tuple", ?_, fun u c hc => by simp only [isiB, Option.some.injEq] at hc; subst hc; cases u <;> decide +kernel⟩
    rcases hq with ⟨hq, _⟩ | ⟨_, o, its, n, e, c, _⟩
    · exact .base (.tup hq)
    · exact .kTuple e c
  | lst hl n _ => exact ⟨"list", .base (.lst hl), fun u c hc => by simp only [isiB, Option.some.injEq] at hc; subst hc; cases u <;> decide +kernel⟩
  | scr _ => simp [isiB] at h
  | ref _ => simp [isiB] at h
  | gone _ => simp [isiB] at h
section
variable {X : Cx} {cl : Nat → Value} {W : WX} {cf : CF} {k : Nat} {pos p p2 p3 p4 : Pos} {a : Expr} {pa : PX} {kk : Nat}
theorem x_isi1 {t : Ty} (hg : Gl X "isinstance") (hm : X.mg "isinstance" = none) (hg2 : Gl X t.name) (hm2 : X.mg t.name = none) (ha : L2.PE X a (rdE X.K cl W cf pa)) (hs : starEach [a, .Name t.name p2] X.env = (false, eval a X.env) :: starEach [.Name t.name p2] X.env) :
    L2.PE X (.Call (.Name "isinstance" p) [a, .Name t.name p2] [] pos) (rdE X.K cl W cf (.isi pa [t])) := by
  refine PEimp (pe_callB call_isi hg hm PyProof.Rows.boot_isinstance (pa_cons ha (pa_cons (pe_bltn (v := .ty t.nm) hg2 hm2 t.boot rfl t.ok1 t.ok2) pa_nil rfl) hs) (by decide) (by decide) hs rfl) fun σ H Q h => ?_
  obtain ⟨w, e, st, rfl, he, hs, h⟩ := h
  simp only [ev] at h
  refine ⟨w, e, st, rfl, he, hs, h.bind.mono fun x H1 hQ => ?_⟩
  obtain ⟨w1, v1, st1, e1, hw1, hs1, r1, h1⟩ := hQ
  subst e1
  obtain ⟨v, q, h1⟩ := h1.ofO
  rw [Option.map_eq_some_iff] at q
  obtain ⟨b, q, rfl⟩ := q
  simp only [isiV] at q
  obtain ⟨n, ty, hk⟩ := isi_ty (r1.deref hs1) q
  exact ⟨x, .ty t.nm, _, _, b, rfl, .ty _, ty, kit_isi (hk t b q), h1 w1 _ (.refl w1) hs1 (.bl b)⟩
theorem x_isi2 {t u : Ty} (hg : Gl X "isinstance") (hm : X.mg "isinstance" = none) (hg2 : Gl X t.name) (hm2 : X.mg t.name = none) (hg3 : Gl X u.name) (hm3 : X.mg u.name = none) (ha : L2.PE X a (rdE X.K cl W cf pa))
    (hs : starEach [a, .Tuple [.Name t.name p2, .Name u.name p3] kk p4] X.env = (false, eval a X.env) :: starEach [.Tuple [.Name t.name p2, .Name u.name p3] kk p4] X.env) :
    L2.PE X (.Call (.Name "isinstance" p) [a, .Tuple [.Name t.name p2, .Name u.name p3] kk p4] [] pos) (rdE X.K cl W cf (.isi pa [t, u])) := by
  refine PEimp (pe_callB call_isiT hg hm PyProof.Rows.boot_isinstance (pa_cons ha (pa_cons (pe_tup (pa_cons (pe_bltn (v := .ty t.nm) hg2 hm2 t.boot rfl t.ok1 t.ok2) (pa_cons (pe_bltn (v := .ty u.nm) hg3 hm3 u.boot rfl u.ok1 u.ok2) pa_nil rfl) rfl)) pa_nil rfl) hs) (by decide) (by decide) hs rfl) fun σ H Q h => ?_
  obtain ⟨w, e, st, rfl, he, hs, h⟩ := h
  simp only [ev] at h
  refine ⟨w, e, st, rfl, he, hs, h.bind.mono fun x H1 hQ => ?_⟩
  obtain ⟨w1, v1, st1, e1, hw1, hs1, r1, h1⟩ := hQ
  subst e1
  obtain ⟨v, q, h1⟩ := h1.ofO
  rw [Option.map_eq_some_iff] at q
  obtain ⟨b, q, rfl⟩ := q
  simp only [isiV, Option.bind_eq_some_iff, Option.map_eq_some_iff] at q
  obtain ⟨b1, q1, b2, q2, rfl⟩ := q
  obtain ⟨n, ty, hk⟩ := isi_ty (r1.deref hs1) q1
  have k1 := kit_isi (K := X.K) (hk t b1 q1)
  have k2 := kit_isi (K := X.K) (hk u b2 q2)
  refine ⟨by show 2 ≤ sizeLine; decide, fun p hp => ⟨x, p, _, .type n, [.type t.nm, .type u.nm], b1 || b2, rfl, upd_same, .cons (.ty _) (.cons (.ty _) .nil), ?_, ?_, h1 (w1.put p _) _ (Wd.put_le hp) (hs1.put hp) (.bl _)⟩⟩
  · cases ty with
    | base h =>
      refine .base ?_
      cases h with
      | non => exact .non
      | bl y => exact .bl y
      | int i => exact .int i
      | str y => exact .str y
      | flt y => exact .flt y
      | lst e => exact .lst (by rw [upd_ne (ne_of_none e hp)]; exact e)
      | frz e => exact .frz (by rw [upd_ne (ne_of_none e hp)]; exact e)
      | tup e => exact .tup (by rw [upd_ne (ne_of_none e hp)]; exact e)
      | dK e => exact .dK (by rw [upd_ne (ne_of_none e hp)]; exact e)
      | dT e => exact .dT (by rw [upd_ne (ne_of_none e hp)]; exact e)
    | byt b => exact .byt b
    | set e => exact .set (by rw [upd_ne (ne_of_none e hp)]; exact e)
    | kList e c => exact .kList e c
    | kTuple e c => exact .kTuple e c
    | kDict e c => exact .kDict e c
    | fTuple e => exact .fTuple (by rw [upd_ne (ne_of_none e hp)]; exact e)
    | fDict e => exact .fDict (by rw [upd_ne (ne_of_none e hp)]; exact e)
  · refine kitAny_cons k1 (fun z => ?_) (fun z => by rw [z]; rfl)
    refine kitAny_cons k2 (fun z2 => ?_) (fun z2 => by rw [z2]; simp)
    rw [kitAny_nil, z, z2]; rfl
/-! methods of lists that write -/
theorem x_mth1 {m : Mth} {q : PX} {o e : Expr} {apos : Pos} (ho : L2.PE X o (rdE X.K cl W cf pa)) (he : L2.PE X e (rdE X.K cl W cf q)) (hbase : attributeBase o m.name X.env (eval o X.env) = eval o X.env) (hline : (apos.endLine == pos.line) = true)
    (hs : starEach [e] X.env = (false, eval e X.env) :: starEach [] X.env) : L2.PE X (.Call (.Attribute o m.name apos) [e] [] pos) (rdE X.K cl W cf (.mth m pa (.cons q .nil))) := by
  have hfew : ((backTo pos (starEach [e] X.env)).all (fun x => !x.1) && (backToKw pos (keywordEach [] X.env)).all (fun x => x.1.isSome) && decide (([e] : List Expr).length + ([] : List Keyword).length + (if ([] : List Keyword).isEmpty then 0 else 1) < 30)) = true := by
    rw [hs]; rfl
  have main : ∀ {id : String} (slot : Slot "list" m.name id) (hty : typeOf (.builtin id) = pure (.type "method_descriptor")) (hm : ∀ E, MtR X id (rMth X.K cl E m)), L2.PE X (.Call (.Attribute o m.name apos) [e] [] pos) (rdE X.K cl W cf (.mth m pa (.cons q .nil))) := fun slot hty hm =>
    ⟨fun pins s σ H Q I h => (pe_bm (cpos := pos) PySem.F.plainAttrs_list slot hty (hm (WE W σ)) ho (x_cons he x_nil hs) hbase hfew hline hs rfl).run pins s σ H Q I (by
      obtain ⟨w, e, st, rfl, he, hs, h⟩ := h
      exact mth_rd he (fun Q' z => ⟨w, e, st, rfl, he, hs, z⟩) (fun w1 st1 Q' hw hs' z => ⟨w1, e, st1, rfl, he.mono hw, hs', z⟩) h)⟩
  cases m with
  | append => exact main PySem.F.slot_list_append PySem.F.type_list_append fun E => mt_app
  | extend => exact main PySem.F.slot_list_extend PySem.F.type_list_extend fun E => mt_ext
  | pop => exact main PySem.F.slot_list_pop PySem.F.type_list_pop fun E => mt_popA
theorem x_mth0 {m : Mth} {o : Expr} {apos : Pos} (ho : L2.PE X o (rdE X.K cl W cf pa)) (hbase : attributeBase o m.name X.env (eval o X.env) = eval o X.env) (hline : (apos.endLine == pos.line) = true) :
    L2.PE X (.Call (.Attribute o m.name apos) [] [] pos) (rdE X.K cl W cf (.mth m pa .nil)) := by
  have main : ∀ {id : String} (slot : Slot "list" m.name id) (hty : typeOf (.builtin id) = pure (.type "method_descriptor")) (hm : ∀ E, MtR X id (rMth X.K cl E m)), L2.PE X (.Call (.Attribute o m.name apos) [] [] pos) (rdE X.K cl W cf (.mth m pa .nil)) := fun slot hty hm =>
    ⟨fun pins s σ H Q I h => (pe_bm0 (cpos := pos) PySem.F.plainAttrs_list slot hty (hm (WE W σ)) ho hbase hline).run pins s σ H Q I (by
      obtain ⟨w, e, st, rfl, he, hs, h⟩ := h
      exact mth_rd (tq := fun σ H Q => Q [] H) he (fun Q' z => ⟨w, e, st, rfl, he, hs, z⟩) (fun w1 st1 Q' hw hs' z => by
        simp only [evs] at z
        exact z w1 [] (.refl w1) hs' .nil) h)⟩
  cases m with
  | append => exact main PySem.F.slot_list_append PySem.F.type_list_append fun E => mt_app
  | extend => exact main PySem.F.slot_list_extend PySem.F.type_list_extend fun E => mt_ext
  | pop => exact main PySem.F.slot_list_pop PySem.F.type_list_pop fun E => mt_popA
/-! methods of texts -/
noncomputable def RM (K : PySem.W.Frag) (m : Sm1) : V → List V → Hp → VK → Prop := fun x xs H Q => ∃ (w : Wd) (st : Sto) (a : List Nat) (b v : PV) (y : V), w.H = H ∧ StOk K w st ∧ RepW K w (.str a) x ∧ xs = [y] ∧ RepW K w b y ∧ smV m a b = some v ∧ Gets K w v st Q
theorem ofL_tl (z : Str) : ofL z.cps.toList = z := str_eq z
theorem Reps.strs {K : PySem.W.Frag} {w : Wd} : ∀ {v : List PV} {u : List V} {ts : List (List Nat)}, Reps K w v u → strsV v = some ts → ∃ ys : List Str, u = ys.map V.str ∧ ys.map (fun z => z.cps.toList) = ts
  | _, _, _, .nil, e => by simp [strsV] at e; subst e; exact ⟨[], rfl, rfl⟩
  | _, _, _, .cons h r, e => by
    cases h with
    | str z _ =>
      simp only [strsV, Option.map_eq_some_iff] at e
      obtain ⟨ms, e1, rfl⟩ := e
      obtain ⟨ys, rfl, h⟩ := Reps.strs r e1
      exact ⟨z :: ys, rfl, by simp [h]⟩
    | _ => simp [strsV] at e
theorem repsStr {K : PySem.W.Frag} {w : Wd} : ∀ (zs : List Str), (∀ z ∈ zs, z.length ≤ sizeLine) → Reps K w (zs.map fun z => PV.str z.cps.toList) (zs.map V.str)
  | [], _ => .nil
  | z :: zs, h => .cons (.str z (h z (by simp))) (repsStr zs fun y hy => h y (by simp [hy]))
theorem mj_join : MtR X "str.join" (RM X.K .join) := by
  intro pins s σ H x xs v us Q I rx rs h
  obtain ⟨w, st, a, b, r, y, rfl, ok, ra, rfl, rb, e, g⟩ := h
  obtain ⟨z, rfl, rfl, hz⟩ := ra.str_inv
  have jo : ∀ ys, joV z.cps.toList ys = some r → ∀ p vs, (SqL X.K w.H p vs ∨ SqT X.K w.H p vs) → Reps X.K w ys vs → y = .ref p → wpAny (model X.prog X.w) X.A (call (.builtin "str.join") (v :: us)) (EP X pins σ Q) X.xe s := fun ys e p vs hp hr hy => by
    unfold joV at e
    rw [Option.bind_eq_some_iff] at e
    obtain ⟨ts, e1, e2⟩ := e
    simp only [Option.ite_none_right_eq_some, Option.some.injEq] at e2
    obtain ⟨hz2, rfl⟩ := e2
    obtain ⟨zs, rfl, rfl⟩ := hr.strs e1
    subst hy
    have hsz : (zs.map (·.length)).sum + zs.length * z.length ≤ 16777216 := by
      have e1 : zs.map (·.length) = (zs.map fun z => z.cps.toList).map List.length := by simp [Function.comp_def, len_eq]
      rw [e1, len_eq]
      simpa using hz2
    refine mt_join pins s σ w.H _ _ v us Q I rx rs ⟨z, p, zs, rfl, rfl, hp, hsz, ?_⟩
    have hl : (Txt.join z zs).length ≤ sizeLine := by
      rw [TL.join_eq]
      exact Nat.le_trans (StrLaws.join_length_le z zs) hsz
    have hr2 := Rep.str (K := X.K) (w := w) (Txt.join z zs) hl
    have e3 : (Txt.join z zs).cps.toList = TL.joinL z.cps.toList (zs.map fun z => z.cps.toList) := by
      rw [TL.join_eq]; exact TL.tl_join z zs
    rw [e3] at hr2
    exact g.same ok hr2
  cases b with
  | lst ys =>
    simp only [smV] at e
    obtain ⟨p, vs, rfl, hp, hr⟩ := rb.lst_inv
    exact jo ys e p vs (.inl (SqL.of hp)) hr rfl
  | tup ys =>
    simp only [smV] at e
    obtain ⟨p, vs, rfl, hp, hr⟩ := rb.tup_inv
    exact jo ys e p vs (.inr hp.sq) hr rfl
  | _ => simp [smV] at e
theorem mj_split : MtR X "str.split" (RM X.K .split) := by
  intro pins s σ H x xs v us Q I rx rs h
  obtain ⟨w, st, a, b, r, y, rfl, ok, ra, rfl, rb, e, g⟩ := h
  obtain ⟨z, rfl, rfl, hz⟩ := ra.str_inv
  cases b with
  | str b =>
    simp only [smV, Option.ite_none_right_eq_some, Option.some.injEq] at e
    obtain ⟨⟨h1, h2, h3, h4⟩, rfl⟩ := e
    obtain ⟨c, rfl, rfl, hc⟩ := rb.str_inv
    refine mt_split pins s σ w.H _ _ v us Q I rx rs ⟨z, c, rfl, rfl, by rw [len_eq, h1]; rfl, by rw [len_eq]; exact h3, fun p hp => ?_⟩
    have hne : TL.tl c ≠ [] := fun q => by have : c.cps.toList = [] := q; rw [this] at h1; simp at h1
    have hk : c.cps.all (· < 256) = true := by rw [← Array.all_toList]; exact h2
    have e3 := TL.split_spl z c hne (TL.kind_ok hk)
    have e4 : (TL.spl c.cps.toList 0 [] z.cps.toList).map PV.str = (Txt.split z c).map fun z => PV.str z.cps.toList := by
      rw [← e3, List.map_map]; rfl
    rw [e4] at g
    refine g.lst ok (repsStr _ fun q hq => ?_) hp
    have : q.cps.toList ∈ TL.spl c.cps.toList 0 [] z.cps.toList := by rw [← e3]; exact List.mem_map_of_mem (f := TL.tl) hq
    have := List.all_eq_true.mp h4 _ this
    rw [len_eq, ← SZ_eq]
    simpa using this
  | _ => simp [smV] at e
theorem mj_strip {m : Sm1} {id : String} {F : Str → Str → Str} (hF : ∀ x y, (F x y).length ≤ x.length) (hm : MtR X id (fun x xs H Q => ∃ a b, x = .str a ∧ xs = [.str b] ∧ a.length ≤ sizeLine ∧ Q (.str (F a b)) H)) (hv : ∀ a b r, smV m a b = some r → ∃ c, b = .str c ∧ r = .str (F (ofL a) (ofL c)).cps.toList) : MtR X id (RM X.K m) := by
  intro pins s σ H x xs v us Q I rx rs h
  obtain ⟨w, st, a, b, r, y, rfl, ok, ra, rfl, rb, e, g⟩ := h
  obtain ⟨z, rfl, rfl, hz⟩ := ra.str_inv
  obtain ⟨c, rfl, rfl⟩ := hv _ _ _ e
  obtain ⟨c, rfl, rfl, hc⟩ := rb.str_inv
  rw [ofL_tl, ofL_tl] at g
  exact hm pins s σ w.H _ _ v us Q I rx rs ⟨z, c, rfl, rfl, hz, g.same ok (.str _ (Nat.le_trans (hF z c) hz))⟩
theorem x_sm {m : Sm1} {q : PX} {o e : Expr} {apos : Pos} (ho : L2.PE X o (rdE X.K cl W cf pa)) (he : L2.PE X e (rdE X.K cl W cf q)) (hbase : attributeBase o m.name X.env (eval o X.env) = eval o X.env) (hline : (apos.endLine == pos.line) = true)
    (hs : starEach [e] X.env = [(false, eval e X.env)]) : L2.PE X (.Call (.Attribute o m.name apos) [e] [] pos) (rdE X.K cl W cf (.sm m pa q)) := by
  have main : ∀ {id : String} (slot : Slot "str" m.name id) (hty : typeOf (.builtin id) = pure (.type "method_descriptor")) (hm : MtR X id (RM X.K m)), L2.PE X (.Call (.Attribute o m.name apos) [e] [] pos) (rdE X.K cl W cf (.sm m pa q)) := fun slot hty hm => by
    refine PEimp (pe_m1 slot hty hm ho he hs hbase hline) fun σ H Q h => ?_
    obtain ⟨w, e, st, rfl, he, hs, h⟩ := h
    simp only [ev] at h
    refine ⟨w, e, st, rfl, he, hs, h.bind.mono fun x H1 hQ => ?_⟩
    obtain ⟨w1, v1, st1, e1, hw1, hs1, r1, h1⟩ := hQ
    subst e1
    split at h1
    · rename_i t
      obtain ⟨z, rfl, rfl, hz⟩ := r1.str_inv
      refine ⟨⟨z, rfl⟩, w1, e, st1, rfl, he.mono hw1, hs1, h1.bind.mono fun y H2 hQ => ?_⟩
      obtain ⟨w2, v2, st2, e2, hw2, hs2, r2, h2⟩ := hQ
      subst e2
      obtain ⟨v, q, h2⟩ := h2.ofO
      exact ⟨w2, st2, _, _, v, y, rfl, hs2, .inl (.str z hz), rfl, r2.deref hs2, q, h2⟩
    · exact h1.elim
  cases m with
  | join => exact main PySem.F.slot_str_join PySem.F.type_str_join mj_join
  | split => exact main PySem.F.slot_str_split PySem.F.type_str_split mj_split
  | rstrip => exact main PySem.F.slot_str_rstrip PySem.F.type_str_rstrip (mj_strip (F := Txt.rstripChars) (fun x y => PyProof.Rows.len_stripBy _ _ _ x) mt_rstripChars fun a b r e => by cases b <;> simp [smV] at e; exact ⟨_, rfl, e.symm⟩)
  | lstrip => exact main PySem.F.slot_str_lstrip PySem.F.type_str_lstrip (mj_strip (F := Txt.lstripChars) (fun x y => PyProof.Rows.len_stripBy _ _ _ x) mt_lstripChars fun a b r e => by cases b <;> simp [smV] at e; exact ⟨_, rfl, e.symm⟩)
  | strip => exact main PySem.F.slot_str_strip PySem.F.type_str_strip (mj_strip (F := Txt.stripChars) (fun x y => PyProof.Rows.len_stripBy _ _ _ x) mt_stripChars fun a b r e => by cases b <;> simp [smV] at e; exact ⟨_, rfl, e.symm⟩)
theorem Reps.reverse {K : PySem.W.Frag} {w : Wd} : ∀ {v : List PV} {u : List V}, Reps K w v u → Reps K w v.reverse u.reverse
  | _, _, .nil => .nil
  | _, _, .cons h r => by
    rw [List.reverse_cons, List.reverse_cons]
    exact (Reps.reverse r).append (.cons h .nil)
theorem PEor {a : Expr} {t t' : TE} (h : L2.PE X a t) (h' : L2.PE X a t') : L2.PE X a (fun σ H Q => t σ H Q ∨ t' σ H Q) := ⟨fun pins s σ H Q I q => q.elim (fun q => h.run pins s σ H Q I q) fun q => h'.run pins s σ H Q I q⟩
theorem x_rv {q : PX} {o : Expr} {p2 p3 p4 : Pos} {k : Nat} (ho : L2.PE X o (rdE X.K cl W cf pa)) (he : L2.PE X (.UnaryOp .USub (.Constant (.int 1) k p3) p4) (rdE X.K cl W cf q)) (hq : q = .neg (.cst (.int 1))) :
    L2.PE X (.Subscript o (.Slice none none (some (.UnaryOp .USub (.Constant (.int 1) k p3) p4)) p2) pos) (rdE X.K cl W cf (.rv pa q)) := by
  refine PEimp (PEor (pe_rev ho he) (pe_revL ho)) fun σ H Q h => ?_
  obtain ⟨w, e, st, rfl, he, hs, h⟩ := h
  simp only [ev] at h
  cases qa : ev cf pa e st with
  | stuck => rw [qa] at h; exact h.elim
  | exc c st1 =>
    rw [qa] at h
    exact .inl ⟨w, e, st, rfl, he, hs, by rw [qa]; exact h⟩
  | ok v1 st1 =>
    rw [qa, Res.bind_ok] at h
    have hn : ev cf q e st1 = .ok (.int (-1)) st1 := by rw [hq]; simp only [ev, Res.bind_ok]
    rw [hn, Res.bind_ok] at h
    obtain ⟨v, hv, h⟩ := h.ofO
    unfold rvV at hv
    split at hv
    · rename_i xs i hx hi
      simp only [Option.ite_none_right_eq_some, Option.some.injEq] at hv
      obtain ⟨_, rfl⟩ := hv
      refine .inl ⟨w, e, st, rfl, he, hs, ?_⟩
      rw [qa]
      intro w1 u hw1 hs1 r1
      refine ⟨w1, e, st1, rfl, he.mono hw1, hs1, ?_⟩
      rw [hn]
      intro w2 u2 hw2 hs2 r2
      cases r2.int_inv
      have r3 := (r1.mono hw2).deref hs2
      rw [hx] at r3
      obtain ⟨a, us, rfl, ha, hr⟩ := r3.tup_inv
      exact ⟨rfl, a, us, rfl, ha.sq, fun p hp => Gets.tup (fun w' u' a b c => h w' u' ((hw1.trans hw2).trans a) b c) hs2 hr.reverse hp⟩
    · rename_i xs i hx hi
      simp only [Option.ite_none_right_eq_some, Option.some.injEq] at hv
      obtain ⟨_, rfl⟩ := hv
      refine .inr ⟨w, e, st, rfl, he, hs, ?_⟩
      rw [qa]
      intro w1 u hw1 hs1 r1
      have r3 := r1.deref hs1
      rw [hx] at r3
      obtain ⟨a, us, rfl, ha, hr⟩ := r3.lst_inv
      exact ⟨a, us, rfl, SqL.of ha, fun p hp => Gets.lst (fun w' u' a b c => h w' u' (hw1.trans a) b c) hs1 hr.reverse hp⟩
    · cases hv
/-! how many there are, each once -/
theorem intsAre_of {us : List Value} : ∀ {ns : List Int}, Vals (ns.map V.int) us → PyProof.Rows.IntsAre us ns := by
  induction us with
  | nil => intro ns h; cases ns with | nil => exact .nil | cons n ns => cases h
  | cons u us ih =>
    intro ns h
    cases ns with
    | nil => cases h
    | cons n ns =>
      cases h with
      | cons r t =>
        obtain ⟨tk, rfl⟩ := r
        exact .cons n tk (ih t)
theorem met_all (ns : List Int) : PyProof.Rows.firstMet (fun i => ns.getD i 0) ns.length = ns.foldl PyProof.Rows.step_dedup [] := by
  unfold PyProof.Rows.firstMet
  congr 1
  refine List.ext_getElem (by simp) fun i h1 h2 => ?_
  simp [List.getD, h2]
theorem dedup_len : ∀ (ns acc : List Int), (ns.foldl PyProof.Rows.step_dedup acc).length ≤ acc.length + ns.length
  | [], acc => by simp
  | n :: ns, acc => by
    have h1 := dedup_len ns (PyProof.Rows.step_dedup acc n)
    have h2 := PyProof.Rows.step_length acc n
    rw [List.foldl_cons, List.length_cons]
    split at h2 <;> omega
theorem x_lns {p2 q0 : Pos} (hc : X.calm = true) (hg : Gl X "len") (hm : X.mg "len" = none) (hg2 : Gl X "set") (hm2 : X.mg "set" = none) (ha : L2.PE X a (rdE X.K cl W cf pa)) (hs : starEach [a] X.env = [(false, eval a X.env)]) :
    L2.PE X (.Call (.Name "len" p) [.Call (.Name "set" p2) [a] [] q0] [] pos) (rdE X.K cl W cf (.u1 .lns pa)) := by
  refine ⟨fun pins s σ H Q I h => ?_⟩
  obtain ⟨w, e, st, rfl, he, hs', h⟩ := h
  simp only [ev] at h
  have hA : rdE X.K cl W cf pa σ w.H (fun x H1 => ∃ (l : Addr) (ns : List Int), x = .ref l ∧ SqL X.K H1 l (ns.map V.int) ∧ ns.length + 1 < 4096 ∧ Q (.int ((ns.foldl PyProof.Rows.step_dedup []).length : Nat)) H1) := by
    refine ⟨w, e, st, rfl, he, hs', h.bind.mono fun x H1 hQ => ?_⟩
    obtain ⟨w1, v1, st1, e1, hw1, hs1, r1, h1⟩ := hQ
    subst e1
    obtain ⟨v, hv, h1⟩ := h1.ofO
    simp only [u1V] at hv
    unfold lnsV at hv
    split at hv
    · rename_i xs hx
      rw [Option.bind_eq_some_iff] at hv
      obtain ⟨ns, e3, hv⟩ := hv
      simp only [Option.ite_none_right_eq_some, Option.some.injEq] at hv
      obtain ⟨hb, rfl⟩ := hv
      have r3 := r1.deref hs1
      rw [hx] at r3
      obtain ⟨l, us, rfl, hl, hr⟩ := r3.lst_inv
      have := hr.ints e3
      subst this
      exact ⟨l, ns, rfl, SqL.of hl, hb, h1 w1 _ (.refl w1) hs1 (.int _)⟩
    · cases hv
  refine PyProof.Rows.Call_ (ld_blt I hg hm boot_len (PyProof.Rows.callWith_builtin1 (PyProof.Rows.args_cons ?_ rfl) rfl rfl))
  refine PyProof.Rows.Call_ (ld_blt I hg2 hm2 PyProof.Rows.boot_set (PyProof.Rows.callWith_type1 (PyProof.Rows.args_cons (thn (ha.run pins s σ w.H _ I hA) fun v s1 ⟨x, H1, I1, r1, q1⟩ => PyProof.Rows.args_nil ?_) hs) hs rfl))
  obtain ⟨l, ns, rfl, hq, hb, q1⟩ := q1
  cases r1
  obtain ⟨its, rv, pl, hz⟩ := I1.list hq
  have hlen : its.toArray.size = ns.length := by rw [List.size_toArray, ← rv.length, List.length_map]
  refine call_set_list (I1.ok.hd hc) pl.isList (by simpa using intsAre_of rv) (by rw [hlen]; exact hb) fun h' tk hS hk => PyProof.Rows.args_nil ?_
  rw [hlen, met_all] at hS
  obtain ⟨o, es, ep, t, ho, hex, hd, _, _, _, hf, hn⟩ := hS
  have J : Inv X pins σ H1 { s1 with heap := h', toks := tk } := I1.kept fun b o e => hk b o (Heap.lt_size e) e
  have hle := dedup_len ns []
  refine call_len_set ho hex hd hf (by rw [hn]; simp at hle; omega) ⟨.int ((ns.foldl PyProof.Rows.step_dedup []).length : Nat), H1, J.tok _, ⟨_, by rw [hn]⟩, q1⟩
theorem each_at {α β : Type} {R : α → β → Prop} : ∀ {as : List α} {bs : List β}, PySem.W.EachIs R as bs → ∀ (i : Nat) (a : α) (b : β), as[i]? = some a → bs[i]? = some b → R a b
  | _, _, .nil, i, a, b, h, _ => by simp at h
  | _, _, .cons h t, 0, a, b, h1, h2 => by simp at h1 h2; subst h1 h2; exact h
  | _, _, .cons h t, i + 1, a, b, h1, h2 => each_at t i a b (by simpa using h1) (by simpa using h2)
theorem nodup_le {α : Type} [DecidableEq α] : ∀ {l m : List α}, l.Nodup → (∀ x ∈ l, x ∈ m) → l.length ≤ m.length
  | [], _, _, _ => Nat.zero_le _
  | x :: l, m, hn, hs => by
    obtain ⟨h1, h2⟩ := List.nodup_cons.mp hn
    have hx : x ∈ m := hs x List.mem_cons_self
    have ih := nodup_le (m := m.erase x) h2 fun y hy => (List.mem_erase_of_ne (a := y) (b := x) (fun e => h1 (by rw [← e]; exact hy))).2 (hs y (List.mem_cons_of_mem _ hy))
    have e := List.length_erase_of_mem hx
    have := List.length_pos_of_mem hx
    rw [List.length_cons]
    omega
theorem new_end {pins : List (Addr × Obj)} {σ : St} {H1 : Hp} {s s3 : Shared} {Q : VK} {q : Addr} {us : List V} {out : List Value} {c : Nat} (J : Inv X pins σ H1 s) (k3 : ∀ b o, s.heap.get? b = some o → s3.heap.get? b = some o)
    (g3 : s3.gens = s.gens) (o3 : s3.os = s.os) (hp : s.heap.objs.size ≤ q) (hg : s3.heap.get? q = some (PyProof.Rows.seqObj "list" out.toArray c)) (vv : Vals us out) (hl : us.length ≤ sizeLine) (g : Q (.ref q) (upd H1 q (.lst us))) : EP X pins σ Q (.ref q) s3 := by
  have hn : H1 q = none := J.hok.fresh hp
  have J2 : Inv X pins σ (upd H1 q (.lst us)) { s with heap := s3.heap, gens := s3.gens, drawn := s3.drawn, toks := s3.toks } :=
    J.call (ch := []) (Un.laid k3 hp hn) (J.hok.laid k3 hp ⟨hl, out, c, vv, hg⟩) (by rw [g3]; exact J.bare) (fun _ z => nomatch z)
  have e3 : s3 = { s with heap := s3.heap, gens := s3.gens, drawn := s3.drawn, toks := s3.toks } := by
    cases s3
    cases s
    cases o3
    rfl
  rw [e3]
  exact ⟨.ref q, _, J2, rfl, g⟩
theorem x_sss {p2 q0 : Pos} (hc : X.calm = true) (hu : X.A.units + 64 < cLine) (hg : Gl X "sorted") (hm : X.mg "sorted" = none) (hg2 : Gl X "set") (hm2 : X.mg "set" = none) (ha : L2.PE X a (rdE X.K cl W cf pa)) (hs : starEach [a] X.env = [(false, eval a X.env)]) :
    L2.PE X (.Call (.Name "sorted" p) [.Call (.Name "set" p2) [a] [] q0] [] pos) (rdE X.K cl W cf (.u1 .sss pa)) := by
  refine ⟨fun pins s σ H Q I h => ?_⟩
  obtain ⟨w, e, st, rfl, he, hs', h⟩ := h
  simp only [ev] at h
  have hA : rdE X.K cl W cf pa σ w.H (fun x H1 => ∃ (b : Bool) (l : Addr) (ks : List Key), x = .ref l ∧ cond b (SqL X.K H1 l (ks.map kV)) (SqT X.K H1 l (ks.map kV)) ∧ SE.Like ks ∧ ks.length + 1 < 4096 ∧
      ∀ js : List Key, js.Nodup → (∀ k, k ∈ js ↔ k ∈ ks) → ∀ q, H1 q = none → Q (.ref q) (upd H1 q (.lst ((js.mergeSort (PySem.W.dataLe false SE.encK)).map kV)))) := by
    refine ⟨w, e, st, rfl, he, hs', h.bind.mono fun x H1 hQ => ?_⟩
    obtain ⟨w1, v1, st1, e1, hw1, hs1, r1, h1⟩ := hQ
    subst e1
    obtain ⟨v, hv, h1⟩ := h1.ofO
    simp only [u1V] at hv
    have r3 := r1.deref hs1
    generalize deref st1 v1 = dv at hv r3
    have fin : ∀ {ks : List Key}, (∀ js : List Key, js.Nodup → (∀ k, k ∈ js ↔ k ∈ ks) → ∃ vs, v = .lst vs ∧ Reps X.K w1 vs ((js.mergeSort (PySem.W.dataLe false SE.encK)).map kV)) →
        ∀ js : List Key, js.Nodup → (∀ k, k ∈ js ↔ k ∈ ks) → ∀ q, w1.H q = none → Q (.ref q) (upd w1.H q (.lst ((js.mergeSort (PySem.W.dataLe false SE.encK)).map kV))) := fun f js nd me q hq => by
      obtain ⟨vs, rfl, rr⟩ := f js nd me
      exact Gets.lst h1 hs1 rr hq
    cases dv <;> simp only [ssV, reduceCtorEq] at hv
    · obtain ⟨l, us, rfl, hl, hr⟩ := r3.tup_inv
      obtain ⟨ks, rfl, k1, k2, k3⟩ := ss_reps hr hv
      exact ⟨false, l, ks, rfl, hl.sq, k1, k2, fin k3⟩
    · obtain ⟨l, us, rfl, hl, hr⟩ := r3.lst_inv
      obtain ⟨ks, rfl, k1, k2, k3⟩ := ss_reps hr hv
      exact ⟨true, l, ks, rfl, SqL.of hl, k1, k2, fin k3⟩
  refine PyProof.Rows.Call_ (ld_blt I hg hm PyProof.Rows.boot_sorted (PyProof.Rows.callWith_builtin1 (PyProof.Rows.args_cons ?_ rfl) rfl rfl))
  refine PyProof.Rows.Call_ (ld_blt I hg2 hm2 PyProof.Rows.boot_set (PyProof.Rows.callWith_type1 (PyProof.Rows.args_cons (thn (ha.run pins s σ w.H _ I hA) fun v s1 ⟨x, H1, I1, r1, q1⟩ => PyProof.Rows.args_nil ?_) hs) hs rfl))
  obtain ⟨b, l, ks, rfl, hq, hlk, hz, q1⟩ := q1
  cases r1
  have hd := I1.ok.hd hc
  have fin : ∀ {its : List Value}, Vals (ks.map kV) its → cond b (s1.heap.IsList l its.toArray) (s1.heap.IsTuple l its.toArray) → wpAny (model X.prog X.w) X.A (call (.type "set") [.ref l])
      (fun v s2 => wpAny (model X.prog X.w) X.A (call (.builtin "sorted") [v]) (EP X pins σ Q) X.xe s2) X.xe s1 := fun {its} rv hl => by
    have ee := each_is (P := X.prog) (w := X.w) rv
    have hlen : its.length = ks.length := ee.length
    refine SE.call_set (ks := ks) hd hl (by rw [List.size_toArray]; exact hlen) (fun i v hv => ?_) (by unfold scanBound; omega) fun h' tk R kp => ?_
    · have hi : i < ks.length := by
        have := (Array.getElem?_eq_some_iff.mp hv).1
        rw [List.size_toArray] at this; omega
      refine ⟨ks[i], List.getElem?_eq_getElem hi, ?_⟩
      exact each_at ee i v ks[i] (by simpa using hv) (List.getElem?_eq_getElem hi)
    · refine SE.sorted_ks (s := { s1 with heap := h', toks := tk }) R hd hu hlk (by unfold scanBound; omega) fun s3 q out c js k3 g3 o3 hp hg3 he nd me => ?_
      have J : Inv X pins σ H1 { s1 with heap := h', toks := tk } := I1.kept kp
      have hn : H1 q = none := J.hok.fresh hp
      have hl3 : ((js.mergeSort (PySem.W.dataLe false SE.encK)).map kV).length ≤ sizeLine := by
        have h1 := he.length
        have h2 : js.length ≤ ks.length := nodup_le nd fun k hk => (me k).1 hk
        rw [List.length_map, List.length_mergeSort, sizeLine_eq]
        omega
      exact new_end (s := { s1 with heap := h', toks := tk }) J k3 g3 o3 hp hg3 (is_each he) hl3 (q1 js nd me q hn)
  have key : wpAny (model X.prog X.w) X.A (call (.type "set") [.ref l]) (fun v s2 => wpAny (model X.prog X.w) X.A (call (.builtin "sorted") [v]) (EP X pins σ Q) X.xe s2) X.xe s1 := by
    cases b with
    | true =>
      obtain ⟨its, rv, pl, _⟩ := I1.list hq
      exact fin rv pl.isList
    | false =>
      obtain ⟨its, rv, pl, _⟩ := I1.tuple hq
      exact fin rv pl
  exact wpAny_mono key (fun v s2 h2 => PyProof.Rows.args_nil h2) fun _ _ e => e
theorem x_trg {p2 q0 : Pos} (hc : X.calm = true) (hg : Gl X "tuple") (hm : X.mg "tuple" = none) (hg2 : Gl X "range") (hm2 : X.mg "range" = none) (ha : L2.PE X a (rdE X.K cl W cf pa)) (hs : starEach [a] X.env = [(false, eval a X.env)]) :
    L2.PE X (.Call (.Name "tuple" p) [.Call (.Name "range" p2) [a] [] q0] [] pos) (rdE X.K cl W cf (.u1 .trg pa)) := by
  refine PEimp (pe_tupRg (p := p) (pos := pos) hc hg hm (prg_1 (p := p2) (pos := q0) hg2 hm2 ha hs)) fun σ H Q h => ?_
  obtain ⟨w, e, st, rfl, he, hs', h⟩ := h
  simp only [ev] at h
  refine ⟨w, e, st, rfl, he, hs', h.bind.mono fun x H1 hQ => ?_⟩
  obtain ⟨w1, v1, st1, e1, hw1, hs1, r1, h1⟩ := hQ
  subst e1
  obtain ⟨v, hv, h1⟩ := h1.ofO
  simp only [u1V] at hv
  have r3 := r1.deref hs1
  generalize deref st1 v1 = dv at hv r3
  cases dv <;> simp only [trgV, reduceCtorEq, Option.ite_none_right_eq_some, Option.some.injEq] at hv
  obtain ⟨⟨b1, b2⟩, rfl⟩ := hv
  cases r3.int_inv
  refine ⟨_, rfl, ⟨by omega, by omega, by omega, by omega, by omega⟩, fun q hq => ?_⟩
  refine Gets.tup h1 hs1 ?_ hq
  unfold rgV
  rw [Int.sub_zero]
  have : ∀ n : Nat, Reps X.K w1 ((List.range n).map fun k => PV.int (k : Nat)) ((List.range n).map fun i => V.int (0 + (i : Nat))) := fun n => by
    have := reps_ints (K := X.K) (w := w1) ((List.range n).map fun k => ((k : Nat) : Int))
    rw [List.map_map, List.map_map] at this
    simpa [Function.comp_def] using this
  exact this _
theorem digit_str {i : Int} (h0 : 0 ≤ i) (h1 : i < 10) : (Str.ofString (toString i)).cps.toList = [48 + i.toNat] ∧ i.natAbs.log2 < 1920 := by
  have : i = 0 ∨ i = 1 ∨ i = 2 ∨ i = 3 ∨ i = 4 ∨ i = 5 ∨ i = 6 ∨ i = 7 ∨ i = 8 ∨ i = 9 := by omega
  rcases this with e | e | e | e | e | e | e | e | e | e <;> subst e <;> decide +kernel
/-- str(i) -/
theorem x_sti (hg : Gl X "str") (hm : X.mg "str" = none) (ha : L2.PE X a (rdE X.K cl W cf pa)) (he : starEach [a] X.env = (false, eval a X.env) :: starEach [] X.env) :
    L2.PE X (.Call (.Name "str" p) [a] [] pos) (rdE X.K cl W cf (.u1 .sti pa)) := by
  refine PEimp (pe_callTy call_str_int hg hm PyProof.Rows.boot_str (pa_cons ha pa_nil he) (by decide) (by decide) he rfl) fun σ H Q h => ?_
  obtain ⟨w, e, st, rfl, he, hs, h⟩ := h
  simp only [ev] at h
  refine ⟨w, e, st, rfl, he, hs, h.bind.mono fun x H1 hQ => ?_⟩
  obtain ⟨w1, v1, st1, e1, hw1, hs1, r1, h1⟩ := hQ
  subst e1
  obtain ⟨v, hv, h1⟩ := h1.ofO
  simp only [u1V] at hv
  unfold stiV at hv
  split at hv
  · rename_i i hi
    simp only [Option.ite_none_right_eq_some, Option.some.injEq] at hv
    obtain ⟨⟨h0, h10⟩, rfl⟩ := hv
    have r3 := r1.deref hs1
    rw [hi] at r3
    cases r3.int_inv
    obtain ⟨d1, d2⟩ := digit_str h0 h10
    refine ⟨i, rfl, d2, ?_⟩
    have hr := Rep.str (K := X.K) (w := w1) (Str.ofString (toString i)) (by
      rw [len_eq, d1]
      show 1 ≤ sizeLine
      decide)
    rw [d1] at hr
    exact h1 w1 _ (.refl w1) hs1 hr
  · cases hv
theorem x_upp {o : Expr} {apos : Pos} (ho : L2.PE X o (rdE X.K cl W cf pa)) (hbase : attributeBase o "upper" X.env (eval o X.env) = eval o X.env) (hline : (apos.endLine == pos.line) = true) :
    L2.PE X (.Call (.Attribute o "upper" apos) [] [] pos) (rdE X.K cl W cf (.u1 .upp pa)) := by
  refine PEimp (pe_bm0 (cpos := pos) PySem.F.plainAttrs_str PySem.F.slot_str_upper PySem.F.type_str_upper mt_upper ho hbase hline) fun σ H Q h => ?_
  obtain ⟨w, e, st, rfl, he, hs, h⟩ := h
  simp only [ev] at h
  refine ⟨w, e, st, rfl, he, hs, h.bind.mono fun x H1 hQ => ?_⟩
  obtain ⟨w1, v1, st1, e1, hw1, hs1, r1, h1⟩ := hQ
  subst e1
  obtain ⟨v, hv, h1⟩ := h1.ofO
  simp only [u1V] at hv
  unfold uppV at hv
  split at hv
  · rename_i t ht
    simp only [Option.ite_none_right_eq_some, Option.some.injEq] at hv
    obtain ⟨hz, rfl⟩ := hv
    have r3 := r1.deref hs1
    rw [ht] at r3
    obtain ⟨z, rfl, rfl, hz1⟩ := r3.str_inv
    have hzl : z.length ≤ 1000000 := by rw [len_eq]; exact hz
    have hu : (PySem.Txt.upper z).length ≤ sizeLine := by
      have := PyProof.Rows.len_upper z
      show _ ≤ 16777216
      omega
    refine ⟨rfl, z, rfl, rfl, by omega, ?_⟩
    have hr := Rep.str (K := X.K) (w := w1) (PySem.Txt.upper z) hu
    have e2 : uppF z.cps.toList = (PySem.Txt.upper z).cps.toList := by
      unfold uppF
      rw [show (⟨z.cps.toList.toArray⟩ : Str) = z from str_eq z]
    rw [e2] at h1
    exact h1 w1 _ (.refl w1) hs1 hr
  · cases hv
theorem x_ncat {b : Expr} {pb : PX} (ha : L2.PE X a (rdE X.K cl W cf pa)) (hb : L2.PE X b (rdE X.K cl W cf pb)) : L2.PE X (.BinOp a .Add b pos) (rdE X.K cl W cf (.ncat pa pb)) := by
  refine PEimp (pe_op op_cat ha hb) fun σ H Q h => ?_
  obtain ⟨w, e, st, rfl, he, hs, h⟩ := h
  simp only [ev] at h
  refine ⟨w, e, st, rfl, he, hs, h.bind.mono fun x H1 hQ => ?_⟩
  obtain ⟨w1, v1, st1, e1, hw1, hs1, r1, h1⟩ := hQ
  subst e1
  refine ⟨w1, e, st1, rfl, he.mono hw1, hs1, h1.bind.mono fun y H2 hQ => ?_⟩
  obtain ⟨w2, v2, st2, e2, hw2, hs2, r2, h2⟩ := hQ
  subst e2
  split at h2
  · rename_i xs hx
    have ra := (r1.mono hw2).deref hs2
    have rb := r2.deref hs2
    generalize deref st2 v1 = A at *
    generalize deref st2 v2 = B at *
    cases A <;> cases B <;> simp only [addV, reduceCtorEq, Option.ite_none_right_eq_some, Option.some.injEq, and_false] at hx
    obtain ⟨hz, hx⟩ := hx
    cases hx
    obtain ⟨a1, us, rfl, h1, q1⟩ := ra.lst_inv
    obtain ⟨a2, us2, rfl, h2', q2⟩ := rb.lst_inv
    exact ⟨a1, a2, us, us2, rfl, rfl, h1, h2', by rw [← q1.length, ← q2.length]; exact hz, fun p hp => Gets.loc (fun w' u a b c => h2 w' u a b c) hs2 (q1.append q2) hp⟩
  · exact h2.elim
/-! max with default -/
noncomputable def rMxd (K : PySem.W.Frag) : List V → List V → Hp → VK → Prop := fun xs zs H Q => ∃ (a : Addr) (ns : List Int) (d : Int), xs = [V.ref a] ∧ zs = [.int d] ∧ SqL K H a (ns.map V.int) ∧ Q (.int ((maxI ns).getD d)) H
theorem dp_ints (K : PySem.W.Frag) (H : Hp) : ∀ ns : List Int, DpAll K H (ns.map V.int) (ns.map PyData.int)
  | [] => .nil
  | n :: ns => .cons (.int n) (dp_ints K H ns)
theorem depth_ints : ∀ ns : List Int, PyData.depthAll (ns.map PyData.int) = 0
  | [] => by simp [PyData.depthAll]
  | n :: ns => by simp [PyData.depthAll, PyData.depth, depth_ints ns]
theorem c_mxd (hc : X.calm = true) (hu : X.A.units + 64 < cLine) : CallRK X (.builtin "max") [Str.ofString "default"] (rMxd X.K) := by
  intro pins s σ H xs zs us ws Q I rx rz h
  obtain ⟨a, ns, d, rfl, rfl, hl, q⟩ := h
  obtain ⟨its, rv, hli, _⟩ := I.list hl
  obtain ⟨as, hr⟩ := Dp.readsAll I _ _ _ (dp_ints X.K H ns) rv
  rw [Vals.ref1 rx]
  cases rz with
  | cons r1 r2 =>
    cases r2
    obtain ⟨tk, rfl⟩ := r1
    have hal : PySem.W.AlikeAll (ns.map PyData.int) := ⟨fun x hx y hy => by
      obtain ⟨n, _, rfl⟩ := List.mem_map.mp hx
      obtain ⟨m, _, rfl⟩ := List.mem_map.mp hy
      simp [PySem.W.alike], fun x hx => by
      obtain ⟨n, _, rfl⟩ := List.mem_map.mp hx
      simp⟩
    refine PySem.W.max_list_default (d := .int d tk) (I.ok.hd hc) hli.isList hr hal (by rw [depth_ints]; omega) (fun he h' tk' hk => ?_) fun y ys i v h' tk' bs he hv hrd hk => ?_
    · have : ns = [] := by simpa using he
      subst this
      exact ⟨.int d, H, I.kept hk, ⟨_, rfl⟩, q⟩
    · cases ns with
      | nil => cases he
      | cons n ns =>
        simp only [List.map_cons, List.cons.injEq] at he
        obtain ⟨rfl, rfl⟩ := he
        rw [PySem.W.maxD_ints] at hrd
        cases hrd with
        | int => exact ⟨.int _, H, I.kept hk, ⟨_, rfl⟩, q⟩
theorem x_mxd {q : PX} {o e : Expr} {kp : Pos} (hc : X.calm = true) (hu : X.A.units + 64 < cLine) (hg : Gl X "max") (hm : X.mg "max" = none) (ho : L2.PE X o (rdE X.K cl W cf pa)) (he : L2.PE X e (rdE X.K cl W cf q)) (hs : starEach [o] X.env = [(false, eval o X.env)]) :
    L2.PE X (.Call (.Name "max" p) [o] [⟨some (Str.ofString "default"), e, kp⟩] pos) (rdE X.K cl W cf (.mxd pa q)) := by
  refine PEimp (pe_callBK (ks := [Str.ofString "default"]) (c_mxd hc hu) hg hm PyProof.Rows.boot_max (pa_cons ho pa_nil hs) (pk_cons he pk_nil) (by decide) (by decide) (by rw [hs]; rfl) (by rw [hs]; rfl) rfl rfl rfl) fun σ H Q h => ?_
  obtain ⟨w, e, st, rfl, he, hs, h⟩ := h
  simp only [ev] at h
  refine ⟨w, e, st, rfl, he, hs, h.bind.mono fun x H1 hQ => ?_⟩
  obtain ⟨w1, v1, st1, e1, hw1, hs1, r1, h1⟩ := hQ
  subst e1
  refine ⟨w1, e, st1, rfl, he.mono hw1, hs1, h1.bind.mono fun y H2 hQ => ?_⟩
  obtain ⟨w2, v2, st2, e2, hw2, hs2, r2, h2⟩ := hQ
  subst e2
  obtain ⟨v, q, h2⟩ := h2.ofO
  unfold mxdV at q
  split at q
  · rename_i xs d hx
    rw [Option.map_eq_some_iff] at q
    obtain ⟨ns, e3, rfl⟩ := q
    cases r2.int_inv
    have r3 := (r1.mono hw2).deref hs2
    rw [hx] at r3
    obtain ⟨a, us, rfl, ha, hr⟩ := r3.lst_inv
    have := hr.ints e3
    subst this
    exact ⟨a, ns, d, rfl, rfl, SqL.of ha, h2 w2 _ (.refl w2) hs2 (.int _)⟩
  · cases q
/-! min with default -/
noncomputable def rMnd (K : PySem.W.Frag) : List V → List V → Hp → VK → Prop := fun xs zs H Q => ∃ (a : Addr) (ns : List Int) (d : Int), xs = [V.ref a] ∧ zs = [.int d] ∧ SqL K H a (ns.map V.int) ∧ Q (.int ((minI ns).getD d)) H
theorem c_mnd (hc : X.calm = true) (hu : X.A.units + 64 < cLine) : CallRK X (.builtin "min") [Str.ofString "default"] (rMnd X.K) := by
  intro pins s σ H xs zs us ws Q I rx rz h
  obtain ⟨a, ns, d, rfl, rfl, hl, q⟩ := h
  obtain ⟨its, rv, hli, _⟩ := I.list hl
  obtain ⟨as, hr⟩ := Dp.readsAll I _ _ _ (dp_ints X.K H ns) rv
  rw [Vals.ref1 rx]
  cases rz with
  | cons r1 r2 =>
    cases r2
    obtain ⟨tk, rfl⟩ := r1
    have hal : PySem.W.AlikeAll (ns.map PyData.int) := ⟨fun x hx y hy => by
      obtain ⟨n, _, rfl⟩ := List.mem_map.mp hx
      obtain ⟨m, _, rfl⟩ := List.mem_map.mp hy
      simp [PySem.W.alike], fun x hx => by
      obtain ⟨n, _, rfl⟩ := List.mem_map.mp hx
      simp⟩
    refine PySem.W.min_list_default (d := .int d tk) (I.ok.hd hc) hli.isList hr hal (by rw [depth_ints]; omega) (fun he h' tk' hk => ?_) fun y ys i v h' tk' bs he hv hrd hk => ?_
    · have : ns = [] := by simpa using he
      subst this
      exact ⟨.int d, H, I.kept hk, ⟨_, rfl⟩, q⟩
    · cases ns with
      | nil => cases he
      | cons n ns =>
        simp only [List.map_cons, List.cons.injEq] at he
        obtain ⟨rfl, rfl⟩ := he
        rw [PySem.W.minD_ints] at hrd
        cases hrd with
        | int => exact ⟨.int _, H, I.kept hk, ⟨_, rfl⟩, q⟩
theorem x_mnd {q : PX} {o e : Expr} {kp : Pos} (hc : X.calm = true) (hu : X.A.units + 64 < cLine) (hg : Gl X "min") (hm : X.mg "min" = none) (ho : L2.PE X o (rdE X.K cl W cf pa)) (he : L2.PE X e (rdE X.K cl W cf q)) (hs : starEach [o] X.env = [(false, eval o X.env)]) :
    L2.PE X (.Call (.Name "min" p) [o] [⟨some (Str.ofString "default"), e, kp⟩] pos) (rdE X.K cl W cf (.mnd pa q)) := by
  refine PEimp (pe_callBK (ks := [Str.ofString "default"]) (c_mnd hc hu) hg hm PyProof.Rows.boot_min (pa_cons ho pa_nil hs) (pk_cons he pk_nil) (by decide) (by decide) (by rw [hs]; rfl) (by rw [hs]; rfl) rfl rfl rfl) fun σ H Q h => ?_
  obtain ⟨w, e, st, rfl, he, hs, h⟩ := h
  simp only [ev] at h
  refine ⟨w, e, st, rfl, he, hs, h.bind.mono fun x H1 hQ => ?_⟩
  obtain ⟨w1, v1, st1, e1, hw1, hs1, r1, h1⟩ := hQ
  subst e1
  refine ⟨w1, e, st1, rfl, he.mono hw1, hs1, h1.bind.mono fun y H2 hQ => ?_⟩
  obtain ⟨w2, v2, st2, e2, hw2, hs2, r2, h2⟩ := hQ
  subst e2
  obtain ⟨v, q, h2⟩ := h2.ofO
  unfold mndV at q
  split at q
  · rename_i xs d hx
    rw [Option.map_eq_some_iff] at q
    obtain ⟨ns, e3, rfl⟩ := q
    cases r2.int_inv
    have r3 := (r1.mono hw2).deref hs2
    rw [hx] at r3
    obtain ⟨a, us, rfl, ha, hr⟩ := r3.lst_inv
    have := hr.ints e3
    subst this
    exact ⟨a, ns, d, rfl, rfl, SqL.of ha, h2 w2 _ (.refl w2) hs2 (.int _)⟩
  · cases q
/-! objects -/
theorem x_att {o : Expr} {C f : Str} (ho : L2.PE X o (rdE X.K cl W cf pa)) (hc : ∀ D, PySem.W.nsIn X.K mainGlobals C = some (some (.ref D)) → Cls X.K D ∧ NoAttr X.K D f) (hb : attributeBase o f X.env (eval o X.env) = eval o X.env) :
    L2.PE X (.Attribute o f pos) (rdE X.K cl W cf (.att pa C f)) := by
  refine PEimp (pe_fld ho hb) fun σ H Q h => ?_
  obtain ⟨w, e, st, rfl, he, hs, h⟩ := h
  simp only [ev] at h
  refine ⟨w, e, st, rfl, he, hs, h.bind.mono fun x H1 hQ => ?_⟩
  obtain ⟨w1, v1, st1, e1, hw1, hs1, r1, h1⟩ := hQ
  subst e1
  obtain ⟨v, q, hv⟩ := h1.ofO
  rw [Option.bind_eq_some_iff] at q
  obtain ⟨⟨D, fs⟩, q1, q2⟩ := q
  simp only [Option.ite_none_right_eq_some] at q2
  obtain ⟨rfl, q2⟩ := q2
  obtain ⟨l, a, Da, dx, us, rfl, rfl, _, _, k1, k2, k3⟩ := obj_at hs1 r1 q1
  obtain ⟨u, hu, ru⟩ := (k3.lookup (f := f)).2 v q2
  obtain ⟨c1, c2⟩ := hc Da k1
  exact ⟨a, Da, dx, us, u, rfl, k2, c1, c2, hu, hv w1 u (.refl w1) hs1 ru⟩
/-- what a method's call reads, behind its receiver -/
theorem met_rd {σ : St} {w : Wd} {e : Env} {st : Sto} {Q : VK} {C m : Str} {i : Nat} {qs : PXs} {n : Nat} {ta : TE} {tq : TA} {D : Addr} (hD : PySem.W.nsIn X.K mainGlobals C = some (some (.ref D))) (hl : qs.len + 1 = n) (he : EnvOk X.K w e σ)
    (h1 : ∀ Q', RdR X.K cl (WE W σ) (Rep X.K) w (ev cf pa e st) Q' → ta σ w.H Q') (h2 : ∀ (w1 : Wd) (st1 : Sto) Q', w.le w1 → StOk X.K w1 st1 → RdR X.K cl (WE W σ) (Reps X.K) w1 (evs cf qs e st1) Q' → tq σ w1.H Q')
    (h : RdR X.K cl (WE W σ) (Rep X.K) w (ev cf (.met pa C m i qs) e st) Q) :
    ta σ w.H fun x H1 => ∃ a dx fs, x = .ref a ∧ H1 a = some (.ins D dx fs) ∧ fs.lookup m = none ∧ tq σ H1 fun vs H2 => spF X.K cl cf n i (x :: vs) H2 Q (WE W σ) := by
  simp only [ev] at h
  refine h1 _ (h.bind.mono fun x H1 hQ => ?_)
  obtain ⟨w1, v1, st1, e1, hw1, hs1, r1, h3⟩ := hQ
  subst e1
  split at h3
  · rename_i D' fs ho
    split at h3
    · rename_i hc
      obtain ⟨rfl, hn⟩ := hc
      obtain ⟨l, a, Da, dx, us, rfl, rfl, _, _, k1, k2, k3⟩ := obj_at hs1 r1 ho
      rw [hD] at k1
      cases k1
      refine ⟨a, dx, us, rfl, k2, (k3.lookup (f := m)).1 hn, h2 w1 st1 _ hw1 hs1 (h3.bindE.mono fun vs H2 ⟨w2, v2, st2, e0, e2, hw2, hs2, r2, h4⟩ => ?_)⟩
      subst e2
      refine ⟨?_, w2, st2, .ref l :: v2, rfl, hs2, .cons (r1.mono hw2) r2, h4⟩
      rw [List.length_cons, ← r2.length, evs_len e0]
      exact hl
    · exact h3.elim
  · exact h3.elim
theorem x_met {f D : Addr} {fd : FuncData} {ps : List Str} {i : Nat} {C m : Str} {o a : Expr} {es : List Expr} {qs : PXs} {apos : Pos} {pl : Sem Bool} (ho : L2.PE X o (rdE X.K cl W cf pa)) (F : FnOk X.prog X.w X.K X.mg X.base (L2.CX X.prog X.w) k f fd ps (spF X.K cl cf ps.length i)) (hr : Room k X.A)
    (hD : PySem.W.nsIn X.K mainGlobals C = some (some (.ref D))) (hc : Cls X.K D) (hm : Meth X.K D m f) (hb : Binds X.K fd ps []) (tk : Takes X W) (hl : qs.len + 1 = ps.length) (ha : L2.PA X (a :: es) (rdA X.K cl W cf qs))
    (hst : starEach (a :: es) X.env = (false, eval a X.env) :: starEach es X.env) (hpl : (backTo pos (starEach es X.env)).any (·.1) = false)
    (ht : eval (.Call (.Attribute o m apos) (a :: es) [] pos) X.env = (do let ov ← eval o X.env; standAt apos.atName; let (f, first) ← holding [ov] (getMethod ov m pl); callWith pos f first (backTo pos (starEach (a :: es) X.env)) (backToKw pos (keywordEach [] X.env)))) :
    L2.PE X (.Call (.Attribute o m apos) (a :: es) [] pos) (rdE X.K cl W cf (.met pa C m i qs)) := by
  refine ⟨fun pins s σ H Q I h => ?_⟩
  obtain ⟨w, e, st, rfl, he, hs, h⟩ := h
  have hrd := met_rd hD hl he (fun Q' z => (show rdE X.K cl W cf pa σ w.H Q' from ⟨w, e, st, rfl, he, hs, z⟩)) (fun w1 st1 Q' hw hs' z => (show rdA X.K cl W cf qs σ w1.H Q' from ⟨w1, e, st1, rfl, he.mono hw, hs', z⟩)) h
  refine PySem.W.methodCall_KW (pl := pl) (thn (ho.run pins s σ w.H _ I hrd) fun u s1 ⟨x, H1, I1, rx, a1, dx, fs, ex, ea, l, q⟩ => ?_) ht
  subst ex
  obtain rfl : u = Value.ref a1 := rx
  refine getmeth_ok I1 ea hc hm l (PySem.W.callWith_K (first := [.ref a1]) (h₀ := X.base) I.ok.mod.kin hm.kp (thn (ha.run pos pins s1 σ H1 _ I1 q) fun us s2 ⟨vs, H2, I2, r, q2⟩ => ⟨I2.kIn, ?_⟩) hst hpl)
  exact run_fnSD (E := WE W) (us := .ref a1 :: us) (vs := .ref a1 :: vs) (dvs := []) (ds := []) F hr hb .nil (passAt tk σ) I2 (.cons rfl r) (by rw [List.append_nil]; exact q2)
theorem x_met0 {f D : Addr} {fd : FuncData} {ps : List Str} {i : Nat} {C m : Str} {o : Expr} {apos : Pos} {pl : Sem Bool} (ho : L2.PE X o (rdE X.K cl W cf pa)) (F : FnOk X.prog X.w X.K X.mg X.base (L2.CX X.prog X.w) k f fd ps (spF X.K cl cf ps.length i)) (hr : Room k X.A)
    (hD : PySem.W.nsIn X.K mainGlobals C = some (some (.ref D))) (hc : Cls X.K D) (hm : Meth X.K D m f) (hb : Binds X.K fd ps []) (tk : Takes X W) (hl : 1 = ps.length)
    (ht : eval (.Call (.Attribute o m apos) [] [] pos) X.env = (do let ov ← eval o X.env; standAt apos.atName; let (f, first) ← holding [ov] (getMethod ov m pl); callWith pos f first (backTo pos (starEach [] X.env)) (backToKw pos (keywordEach [] X.env)))) :
    L2.PE X (.Call (.Attribute o m apos) [] [] pos) (rdE X.K cl W cf (.met pa C m i .nil)) := by
  refine ⟨fun pins s σ H Q I h => ?_⟩
  obtain ⟨w, e, st, rfl, he, hs, h⟩ := h
  have hrd := met_rd (qs := .nil) (n := ps.length) (tq := fun _ H Q => Q [] H) hD hl he (fun Q' z => (show rdE X.K cl W cf pa σ w.H Q' from ⟨w, e, st, rfl, he, hs, z⟩)) (fun w1 st1 Q' hw hs' z => by
    simp only [evs] at z
    exact z w1 [] (.refl w1) hs' .nil) h
  refine PySem.W.methodCall_KW (pl := pl) (thn (ho.run pins s σ w.H _ I hrd) fun u s1 ⟨x, H1, I1, rx, a1, dx, fs, ex, ea, l, q⟩ => ?_) ht
  subst ex
  obtain rfl : u = Value.ref a1 := rx
  refine getmeth_ok I1 ea hc hm l (PySem.W.callWith_K0 (first := [.ref a1]) I1.kIn hm.kp ?_)
  exact run_fnSD (E := WE W) (us := [.ref a1]) (vs := [.ref a1]) (dvs := []) (ds := []) F hr hb .nil (passAt tk σ) I1 (.cons rfl .nil) (by rw [List.append_nil]; exact q)
/-- a new object -/
theorem mk_rd {σ : St} {w : Wd} {e : Env} {st : Sto} {Q : VK} {C : Str} {i : Nat} {qs : PXs} {n : Nat} {tq : TA} {D : Addr} (hD : PySem.W.nsIn X.K mainGlobals C = some (some (.ref D))) (hl : qs.len + 1 = n)
    (h2 : ∀ Q', RdR X.K cl (WE W σ) (Reps X.K) w (evs cf qs e st) Q' → tq σ w.H Q')
    (h : RdR X.K cl (WE W σ) (Rep X.K) w (ev cf (.mk C i qs) e st) Q) : tMake D (spF X.K cl cf n i) [] (fun _ _ _ => False) tq σ w.H Q := by
  simp only [ev] at h
  refine h2 _ (h.bindE.mono fun vs H1 hQ => ?_)
  obtain ⟨w1, v1, st1, e0, e1, hw1, hs1, r1, h3⟩ := hQ
  subst e1
  intro x dx hx hdx hne
  rw [List.append_nil]
  refine ⟨by rw [List.length_cons, ← r1.length, evs_len e0]; exact hl, w1.nob x dx D, st1 ++ [.obj C []], .ref st1.length :: v1, rfl, hs1.nob hx hdx hD, .cons (.ref ?_) (r1.mono (Wd.nob_le hx hdx)), ?_⟩
  · show (w1.m ++ [some x])[st1.length]? = _
    rw [← hs1.len]; simp
  · cases q : cf i (.ref st1.length :: v1) (st1 ++ [.obj C []]) with
    | ok v st2 =>
      rw [q] at h3
      cases v with
      | non =>
        intro w2 u hw2 hs2 r2
        refine ⟨r2.non_inv, h3 w2 (.ref x) ((Wd.nob_le hx hdx).trans hw2) hs2 ?_⟩
        have hm : (w1.nob x dx D).m[st1.length]? = some (some x) := by
          show (w1.m ++ [some x])[st1.length]? = _
          rw [← hs1.len]; simp
        rcases hw2.loc _ _ hm with z | z
        · exact .ref z
        · exact .gone z
      | _ => exact h3.elim
    | exc c st2 => rw [q] at h3; exact h3.elim
    | stuck => rw [q] at h3; exact h3.elim
theorem passes_no {X : Cx} : Passes (L2.CX X.prog X.w) X (fun _ _ _ => False) := fun pins σ H s e s' I c => by
  obtain ⟨_, _, _, _, _, _, _, _, _, _, _, _, z⟩ := c
  exact z.elim
theorem x_mk {f D : Addr} {fd : FuncData} {ps : List Str} {i : Nat} {C : Str} {a : Expr} {es : List Expr} {qs : PXs} (F : FnOk X.prog X.w X.K X.mg X.base (L2.CX X.prog X.w) k f fd ps (spF X.K cl cf ps.length i)) (hr : Room (k + 1) X.A) (hg : Gl X C) (hmg : X.mg C = some (.ref D))
    (hD : PySem.W.nsIn X.K mainGlobals C = some (some (.ref D))) (M : Mk X.K D f) (hb : Binds X.K fd ps []) (hl : qs.len + 1 = ps.length) (ha : L2.PA X (a :: es) (rdA X.K cl W cf qs)) (hdb : (C == ("__debug__" : Str)) = false)
    (hst : starEach (a :: es) X.env = (false, eval a X.env) :: starEach es X.env) (hpl : (backTo pos (starEach es X.env)).any (·.1) = false) :
    L2.PE X (.Call (.Name C p) (a :: es) [] pos) (rdE X.K cl W cf (.mk C i qs)) := by
  refine PEimp (pe_make M F hr hg hmg hb .nil passes_no ha hdb hst hpl) fun σ H Q h => ?_
  obtain ⟨w, e, st, rfl, he, hs, h⟩ := h
  exact mk_rd hD hl (fun Q' z => ⟨w, e, st, rfl, he, hs, z⟩) h
theorem x_mk0 {f D : Addr} {fd : FuncData} {ps : List Str} {i : Nat} {C : Str} (F : FnOk X.prog X.w X.K X.mg X.base (L2.CX X.prog X.w) k f fd ps (spF X.K cl cf ps.length i)) (hr : Room (k + 1) X.A) (hg : Gl X C) (hmg : X.mg C = some (.ref D))
    (hD : PySem.W.nsIn X.K mainGlobals C = some (some (.ref D))) (M : Mk X.K D f) (hb : Binds X.K fd ps []) (hl : 1 = ps.length) (hdb : (C == ("__debug__" : Str)) = false) :
    L2.PE X (.Call (.Name C p) [] [] pos) (rdE X.K cl W cf (.mk C i .nil)) := by
  refine PEimp (pe_make0 M F hr hg hmg hb .nil passes_no hdb) fun σ H Q h => ?_
  obtain ⟨w, e, st, rfl, he, hs, h⟩ := h
  exact mk_rd (qs := .nil) (n := ps.length) (tq := tNil) hD hl (fun Q' z => by
    simp only [evs] at z
    exact z w [] (.refl w) hs .nil) h
end
end PL

/-! PLw: the word of a refusal, asked for where it is caught. -/
namespace PL
open PySem PySem.Spec PyProof.Rows L2
theorem PSimpW {X : Cx} {s : Stmt} {t t' : TS} (h : L2.PS X s t) (f : ∀ D σ H, t' D σ H → t D σ H) : L2.PS X s t' := ⟨fun pins s σ H D I q => h.run pins s σ H D I (f D σ H q)⟩
theorem PSsimpW {X : Cx} {s : List Stmt} {t t' : TS} (h : L2.PSs X s t) (f : ∀ D σ H, t' D σ H → t D σ H) : L2.PSs X s t' := ⟨fun pins s σ H D I q => h.run pins s σ H D I (f D σ H q)⟩
/-- what the classes tell of one another -/
structure WrdAt (K : PySem.W.Frag) (cl : Nat → Value) (c : Nat) : Prop where
  ex : ∃ D : Addr, cl c = .ref D ∧ ExcC K D ∧ PySem.W.kitOne K (.ref D) (.type "ValueError") = some true
  one : ∀ c', 1 ≤ c' → c' ≤ 7 → PySem.W.kitOne K (cl c) (cl c') = some (decide (c = c'))
/-- isinstance of what is pinned -/
theorem call_isW {X : Cx} {a D : Addr} {oe : Obj} (hp : (a, oe) ∈ X.pn) (C : ExcC X.K D) (hz : Zc (.ref D) none oe) (hf : ∃ vs, oe.data = .fields vs) : CallR X (.builtin "isinstance") (rIsE X.K D a) := by
  intro pins s σ H xs us Q I r h
  obtain ⟨c, cv, b, rfl, hcv, e, q⟩ := h
  rcases r with _ | ⟨rx, _ | ⟨rt, _ | _⟩⟩
  cases rx
  have ec := hcv _ rt
  subst ec
  have hget := (I.pin (a, oe) (List.mem_append_left _ hp)).1
  obtain ⟨vs, hv⟩ := hf
  have J : PySem.W.InstAt s.heap a oe D none := by
    obtain ⟨oc, od, oda, osl⟩ := oe
    obtain ⟨z1, z2⟩ := hz
    simp only at z1 z2 hv
    subst z1 z2 hv
    exact ⟨hget, rfl, rfl, trivial⟩
  exact PySem.W.kia_one (PySem.W.handS_kitx_exc C.hg C.hk C.hs C.hd C.ha C.hn C.ht C.hm) I.kIn J e (fun z => nomatch z) fun tk => ⟨.bl b, H, I.kept (t' := tk) fun _ _ z => z, rfl, q⟩
/-- how often True stands in a list of truths -/
noncomputable def rCntB (K : PySem.W.Frag) : V → List V → Hp → VK → Prop := fun x xs H Q => ∃ (p : Addr) (bs : List Bool), x = .ref p ∧ xs = [.bl true] ∧ SqL K H p (bs.map V.bl) ∧ Q (.int (bs.count true : Nat)) H
noncomputable def isTr : Value → Bool
  | .bool b => b
  | _ => false
theorem eqk_bool {vs : List Value} {bs : List Bool} (h : Vals (bs.map V.bl) vs) : ∀ y ∈ vs, ∀ (A : Around) (s : Shared), SeqAt.EqAt A s y (.bool true) (isTr y) := by
  induction bs generalizing vs with
  | nil => cases h; intro y hy; cases hy
  | cons b bs ih =>
    cases h with
    | cons h1 h2 =>
      intro y hy A s
      rcases List.mem_cons.mp hy with z | z
      · subst z
        cases h1
        have := SeqAt.EqAt.bool_bool (A := A) (s := s) b true
        cases b <;> exact this
      · exact ih h2 y z A s
theorem count_bool {vs : List Value} {bs : List Bool} (h : Vals (bs.map V.bl) vs) : vs.countP isTr = bs.count true := by
  induction bs generalizing vs with
  | nil => cases h; rfl
  | cons b bs ih =>
    cases h with
    | cons h1 h2 =>
      cases h1
      rw [List.countP_cons, ih h2, List.count_cons]
      cases b <;> rfl
section
variable {X : Cx}
theorem mt_cntB : MtR X "list.count" (rCntB X.K) := by
  intro pins s σ H x xs v us Q I rx rxs h
  obtain ⟨p, bs, rfl, rfl, hs, q⟩ := h
  cases rx
  obtain ⟨u, rfl, ru⟩ := rxs.one
  cases ru
  obtain ⟨its, rv, ⟨⟨cls, dd, data, sl⟩, n, ho, hc, hdn, hd⟩, hlen⟩ := I.list hs
  simp only at hc hd
  subst hc hd
  refine call_meets PySem.F.slot_list_count ⟨_, ho, rfl⟩ PySem.F.entry_list_count (PySem.F.args_list_count_2 _ _)
    (SeqAt.list_countAt p its.toArray n dd sl (.bool true) isTr) ⟨ho, fun y hy => eqk_bool rv y (by simpa using hy) _ _, ?_⟩
  have ec : its.toArray.toList.countP isTr = bs.count true := count_bool rv
  refine ⟨.int (bs.count true : Nat), H, I.tok _, ⟨s.toks, ?_⟩, q⟩
  show Value.int ((its.toArray.toList.countP isTr : Nat) : Int) s.toks = Value.int ((bs.count true : Nat) : Int) s.toks
  rw [ec]
end
/-- more is tracked, nothing else -/
noncomputable def Ext (K : PySem.W.Frag) (st : Sto) (H H' : Hp) : Prop := ∀ w : Wd, w.H = H → StOk K w st → ∃ w' : Wd, w.le w' ∧ StOk K w' st ∧ w'.H = H'
theorem Ext.refl (K : PySem.W.Frag) (st : Sto) (H : Hp) : Ext K st H H := fun w e s => ⟨w, .refl w, s, e⟩
theorem Ext.trans {K : PySem.W.Frag} {st : Sto} {H H' H'' : Hp} (h : Ext K st H H') (k : Ext K st H' H'') : Ext K st H H'' := fun w e s => by
  obtain ⟨w1, l1, s1, e1⟩ := h w e s
  obtain ⟨w2, l2, s2, e2⟩ := k w1 e1 s1
  exact ⟨w2, l1.trans l2, s2, e2⟩
theorem Ext.new {K : PySem.W.Frag} {st : Sto} {H : Hp} {p : Addr} {o : HO} (h : H p = none) : Ext K st H (upd H p o) := fun w e s => by
  subst e
  exact ⟨w.put p o, Wd.put_le h, s.put h, rfl⟩
noncomputable abbrev isE (C : Str) (p p2 p3 pos : Pos) : Expr := .Call (.Name "isinstance" p) [.Name "kept" p2, .Name C p3] [] pos
/-- isinstance of the exception that is held -/
noncomputable def tI (a : Addr) (b : Bool) : TE := fun σ H Q => σ[0]? = some (some (.ref a)) ∧ Q (.bl b) H
structure WCx (X : Cx) (a D : Addr) : Prop where
  n0 : X.N[0]? = some ("kept" : Str)
  n1 : X.N[1]? = some ("kinds" : Str)
  nd : X.N.Nodup
  v0 : Vis X.env.scope ("kept" : Str)
  v1 : Vis X.env.scope ("kinds" : Str)
  l1 : Loc X.env.scope ("kinds" : Str)
  f1 : X.fn ("kinds" : Str) = true ∨ X.env.scope.names.lookup ("kinds" : Str) = some .local
  gi : Gl X ("isinstance" : Str)
  mi : X.mg ("isinstance" : Str) = none
  gv : Gl X ("ValueError" : Str)
  mv : X.mg ("ValueError" : Str) = none
  cr : CallR X (.builtin "isinstance") (rIsE X.K D a)
section
variable {X : Cx} {a D : Addr} {st : Sto}
theorem pe_isC (h : WCx X a D) {C : Str} {Ca : Addr} {b : Bool} {p p2 p3 pos : Pos} (hg : Gl X C) (hm : X.mg C = some (.ref Ca)) (hd : (C == ("__debug__" : Str)) = false) (hk : PySem.W.kitOne X.K (.ref D) (.ref Ca) = some b) : L2.PE X (isE C p p2 p3 pos) (tI a b) :=
  PEimp (pe_callB h.cr h.gi h.mi PyProof.Rows.boot_isinstance (pa_cons (pe_var h.n0 h.v0) (pa_cons (pe_glob (v := .ref Ca) hg hm rfl hd) pa_nil))) fun σ H Q ⟨h0, q⟩ => ⟨.ref a, h0, .ref Ca, .ref Ca, b, rfl, fun u r => r, hk, q⟩
theorem pe_isV (h : WCx X a D) {b : Bool} {p p2 p3 pos : Pos} (hk : PySem.W.kitOne X.K (.ref D) (.type "ValueError") = some b) : L2.PE X (isE "ValueError" p p2 p3 pos) (tI a b) :=
  PEimp (pe_callB h.cr h.gi h.mi PyProof.Rows.boot_isinstance (pa_cons (pe_var h.n0 h.v0) (pa_cons (pe_bltn (v := .ty "ValueError") h.gv h.mv (by rfl) rfl) pa_nil))) fun σ H Q ⟨h0, q⟩ => ⟨.ref a, h0, .ty "ValueError", .type "ValueError", b, rfl, fun u r => r, hk, q⟩
/-- the list so far -/
noncomputable def TW (K : PySem.W.Frag) (st : Sto) (a : Addr) (bs bs' : List Bool) : TS := fun E σ H => ∃ k : Addr, σ = [some (.ref a), some (.ref k)] ∧ H k = some (.lst (bs.map V.bl)) ∧ ∀ H' k', Ext K st H H' → H' k' = some (.lst (bs'.map V.bl)) → E.nx [some (.ref a), some (.ref k')] H'
theorem w_1 (h : WCx X a D) {e1 e2 : Expr} {b1 b2 : Bool} {p p1 p2 p3 q1 q2 q3 q4 r1 r2 r3 r4 : Pos} {C1 C2 : Str} (h1 : L2.PE X (isE C1 q1 q2 q3 q4) (tI a b1)) (h2 : L2.PE X (isE C2 r1 r2 r3 r4) (tI a b2)) :
    L2.PS X (.Assign [.Name "kinds" p] (.List [isE C1 q1 q2 q3 q4, isE C2 r1 r2 r3 r4] p1) p2) (fun E σ H => σ = [some (.ref a), none] ∧ ∀ H' k', Ext X.K st H H' → H' k' = some (.lst ([b1, b2].map V.bl)) → E.nx [some (.ref a), some (.ref k')] H') := by
  refine PSimpW (ps_set h.nd h.n1 h.l1 (pe_lst (pa_cons h1 (pa_cons h2 pa_nil))) rfl h.f1) fun E σ H hw => ?_
  obtain ⟨rfl, q⟩ := hw
  refine ⟨rfl, rfl, by show 2 ≤ sizeLine; decide, fun p hp => ?_⟩
  exact q _ p (Ext.new hp) upd_same
theorem w_2 (h : WCx X a D) {bs : List Bool} {es : List Expr} {bs2 : List Bool} {p p1 p2 p3 p4 : Pos} {tl : TA} (hes : L2.PA X es tl) (ht : ∀ k H Q, Q (bs2.map V.bl) H → tl [some (.ref a), some (.ref k)] H Q) (hz : bs.length + bs2.length ≤ 1000) :
    L2.PS X (.Assign [.Name "kinds" p] (.BinOp (.Name "kinds" p1) .Add (.List es p2) p3) p4) (TW X.K st a bs (bs ++ bs2)) := by
  refine PSimpW (ps_set h.nd h.n1 h.l1 (pe_op op_cat (pe_var h.n1 h.v1) (pe_lst hes)) rfl h.f1) fun E σ H hw => ?_
  obtain ⟨k, rfl, hk, q⟩ := hw
  refine ⟨.ref k, rfl, ht k H _ ⟨by rw [List.length_map]; show _ ≤ 16777216; omega, fun p hp => ?_⟩⟩
  refine ⟨k, p, bs.map V.bl, bs2.map V.bl, rfl, rfl, by rw [upd_ne (ne_of_none hk hp)]; exact hk, upd_same, by rw [List.length_map, List.length_map]; show _ ≤ 16777216; omega, fun p2 hp2 => ?_⟩
  refine q _ p2 ((Ext.new hp).trans (Ext.new hp2)) ?_
  rw [upd_same, List.map_append]
theorem w_4 (h : WCx X a D) {bs : List Bool} {x1 : Str} {p p1 p2 p3 p4 p5 p6 p7 p8 p9 r1 r2 r3 r4 ap cp : Pos} {j1 j2 j3 : Nat} (hv : L2.PE X (isE "ValueError" r1 r2 r3 r4) (tI a true)) (hl : (ap.endLine == cp.line) = true) (hc : bs.count true = 1) :
    L2.PS X (.If (.BoolOp .Or [.Compare (.Call (.Attribute (.Name "kinds" p1) "count" ap) [.Constant (.bool true) j1 p2] [] cp) [.NotEq] [.Constant (.int 1) j2 p3] p4, .UnaryOp .Not (isE "ValueError" r1 r2 r3 r4) p5] p6) [.Return (some (.Constant (.str x1) j3 p7)) p8] [] p9)
      (fun E σ H => ∃ k : Addr, σ = [some (.ref a), some (.ref k)] ∧ H k = some (.lst (bs.map V.bl)) ∧ E.nx σ H) := by
  have t1 := pe_bm (X := X) (cpos := cp) (apos := ap) PySem.F.plainAttrs_list PySem.F.slot_list_count PySem.F.type_list_count mt_cntB (pe_var (x := "kinds") (pos := p1) h.n1 h.v1) (pa_cons (pe_bl (j := j1) (pos := p2) (b := true)) pa_nil) rfl rfl hl rfl rfl
  refine PSimpW (ps_if ((pw_or (pt_cmpR op_ne t1 pe_int rfl) (pw_or1 (pt_not (pt_truth hv fun _ => rfl)))).pt) (pss_cons (ps_ret pe_str) pss_nil) pss_nil) fun E σ H hw => ?_
  obtain ⟨k, rfl, hk, q⟩ := hw
  refine ⟨.ref k, rfl, .inl ⟨rfl, _, SqL.of hk⟩, k, bs, rfl, rfl, SqL.of hk, ?_⟩
  rw [hc]
  refine ⟨rfl, false, rfl, ?_⟩
  exact ⟨rfl, true, rfl, q⟩
noncomputable def wordsL : List Str := ["no way", "bad sum", "no text", "no picture", "no room", "no line", "no deed"]
theorem w_5 (h : WCx X a D) {bs : List Bool} {c : Nat} {p p1 p2 p3 p4 p5 ap cp z1 z2 z3 z4 z5 z6 z7 : Pos} {j1 n1 n2 n3 n4 n5 n6 n7 : Nat} {kt : Nat} (hl : (ap.endLine == cp.line) = true) (h1 : 1 ≤ c) (h7 : c ≤ 7)
    (hb : bs = [decide (c = 1), decide (c = 2), decide (c = 3), decide (c = 4), decide (c = 5), decide (c = 6), decide (c = 7)]) :
    L2.PS X (.Return (some (.Subscript (.Tuple [.Constant (.str "no way") n1 z1, .Constant (.str "bad sum") n2 z2, .Constant (.str "no text") n3 z3, .Constant (.str "no picture") n4 z4, .Constant (.str "no room") n5 z5, .Constant (.str "no line") n6 z6, .Constant (.str "no deed") n7 z7] kt p)
      (.Call (.Attribute (.Name "kinds" p1) "index" ap) [.Constant (.bool true) j1 p2] [] cp) p3)) p4)
      (fun E σ H => ∃ k : Addr, σ = [some (.ref a), some (.ref k)] ∧ H k = some (.lst (bs.map V.bl)) ∧ ∀ H', Ext X.K st H H' → E.rt (.str (wordS c)) H') := by
  have t1 := pe_bm (X := X) (cpos := cp) (apos := ap) PySem.F.plainAttrs_list PySem.F.slot_list_index PySem.F.type_list_index mt_index (pe_var (x := "kinds") (pos := p1) h.n1 h.v1) (pa_cons (pe_bl (j := j1) (pos := p2) (b := true)) pa_nil) rfl rfl hl rfl rfl
  refine PSimpW (ps_ret (pe_ix ix_tup (pe_tup (pa_cons pe_str (pa_cons pe_str (pa_cons pe_str (pa_cons pe_str (pa_cons pe_str (pa_cons pe_str (pa_cons pe_str pa_nil)))))))) t1 (fun _ _ => rfl))) fun E σ H hw => ?_
  obtain ⟨k, rfl, hk, q⟩ := hw
  refine ⟨by show 7 ≤ sizeLine; decide, fun p hp => ?_⟩
  have hk2 : upd H p (.tup [.str "no way", .str "bad sum", .str "no text", .str "no picture", .str "no room", .str "no line", .str "no deed"]) k = some (.lst (bs.map V.bl)) := by rw [upd_ne (ne_of_none hk hp)]; exact hk
  have hq := q _ (Ext.new (o := .tup [.str "no way", .str "bad sum", .str "no text", .str "no picture", .str "no room", .str "no line", .str "no deed"]) hp)
  refine ⟨.ref k, rfl, .inl ⟨rfl, _, SqL.of hk2⟩, ?_⟩
  obtain ⟨d, rfl⟩ : ∃ d, c = d + 1 := ⟨c - 1, by omega⟩
  refine ⟨k, bs.map V.bl, .bl true, d, .bl true, rfl, rfl, SqL.of hk2, rfl, ?_, ?_, rfl, ?_, ?_⟩
  · subst hb; rfl
  · subst hb
    have : d < 7 := by omega
    match d, this with
    | 0, _ => rfl
    | 1, _ => rfl
    | 2, _ => rfl
    | 3, _ => rfl
    | 4, _ => rfl
    | 5, _ => rfl
    | 6, _ => rfl
  · subst hb
    intro m z' hm hz
    have : d < 7 := by omega
    have hmb : m < 7 := by omega
    have hz2 : z' = .bl (decide (d = m)) := by
      match m, hmb, hz with
      | 0, _, hz => simp at hz; simp [← hz]
      | 1, _, hz => simp at hz; simp [← hz]
      | 2, _, hz => simp at hz; simp [← hz]
      | 3, _, hz => simp at hz; simp [← hz]
      | 4, _, hz => simp at hz; simp [← hz]
      | 5, _, hz => simp at hz; simp [← hz]
      | 6, _, hz => simp at hz; simp [← hz]
    rw [hz2, decide_eq_false (by omega)]
    rfl
  · have : d < 7 := by omega
    match d, this with
    | 0, _ => exact ⟨p, _, 0, _, rfl, rfl, .inl (.inl upd_same), rfl, hq⟩
    | 1, _ => exact ⟨p, _, 1, _, rfl, rfl, .inl (.inl upd_same), rfl, hq⟩
    | 2, _ => exact ⟨p, _, 2, _, rfl, rfl, .inl (.inl upd_same), rfl, hq⟩
    | 3, _ => exact ⟨p, _, 3, _, rfl, rfl, .inl (.inl upd_same), rfl, hq⟩
    | 4, _ => exact ⟨p, _, 4, _, rfl, rfl, .inl (.inl upd_same), rfl, hq⟩
    | 5, _ => exact ⟨p, _, 5, _, rfl, rfl, .inl (.inl upd_same), rfl, hq⟩
    | 6, _ => exact ⟨p, _, 6, _, rfl, rfl, .inl (.inl upd_same), rfl, hq⟩
theorem word_body (h : WCx X a D) {c : Nat} (h1 : 1 ≤ c) (h7 : c ≤ 7) {x1 : Str} {p1 p2 p3 p4 p5 p6 p7 p8 p9 p10 p11 p12 p13 p14 p15 p16 p17 p18 p19 p20 p21 p22 p23 p24 p25 p26 p27 ap1 cp1 ap2 cp2 z1 z2 z3 z4 z5 z6 z7 : Pos} {j1 j2 j3 j4 n1 n2 n3 n4 n5 n6 n7 kt : Nat}
    {a1 a2 a3 a4 a5 a6 a7 av : Expr} (e1 : ∃ q1 q2 q3 q4, a1 = isE "NoWay" q1 q2 q3 q4) (e2 : ∃ q1 q2 q3 q4, a2 = isE "BadSum" q1 q2 q3 q4) (e3 : ∃ q1 q2 q3 q4, a3 = isE "NoText" q1 q2 q3 q4) (e4 : ∃ q1 q2 q3 q4, a4 = isE "NoPicture" q1 q2 q3 q4)
    (e5 : ∃ q1 q2 q3 q4, a5 = isE "NoRoom" q1 q2 q3 q4) (e6 : ∃ q1 q2 q3 q4, a6 = isE "NoLine" q1 q2 q3 q4) (e7 : ∃ q1 q2 q3 q4, a7 = isE "NoDeed" q1 q2 q3 q4) (ev : ∃ q1 q2 q3 q4, av = isE "ValueError" q1 q2 q3 q4)
    (t1 : L2.PE X a1 (tI a (decide (c = 1)))) (t2 : L2.PE X a2 (tI a (decide (c = 2)))) (t3 : L2.PE X a3 (tI a (decide (c = 3)))) (t4 : L2.PE X a4 (tI a (decide (c = 4)))) (t5 : L2.PE X a5 (tI a (decide (c = 5)))) (t6 : L2.PE X a6 (tI a (decide (c = 6)))) (t7 : L2.PE X a7 (tI a (decide (c = 7)))) (tv : L2.PE X av (tI a true))
    (hl1 : (ap1.endLine == cp1.line) = true) (hl2 : (ap2.endLine == cp2.line) = true) :
    L2.PSs X [.Assign [.Name "kinds" p1] (.List [a1, a2] p2) p3, .Assign [.Name "kinds" p4] (.BinOp (.Name "kinds" p5) .Add (.List [a3, a4] p6) p7) p8, .Assign [.Name "kinds" p9] (.BinOp (.Name "kinds" p10) .Add (.List [a5, a6, a7] p11) p12) p13,
      .If (.BoolOp .Or [.Compare (.Call (.Attribute (.Name "kinds" p14) "count" ap1) [.Constant (.bool true) j1 p15] [] cp1) [.NotEq] [.Constant (.int 1) j2 p16] p17, .UnaryOp .Not av p18] p19) [.Return (some (.Constant (.str x1) j3 p20)) p21] [] p22,
      .Return (some (.Subscript (.Tuple [.Constant (.str "no way") n1 z1, .Constant (.str "bad sum") n2 z2, .Constant (.str "no text") n3 z3, .Constant (.str "no picture") n4 z4, .Constant (.str "no room") n5 z5, .Constant (.str "no line") n6 z6, .Constant (.str "no deed") n7 z7] kt p23)
        (.Call (.Attribute (.Name "kinds" p24) "index" ap2) [.Constant (.bool true) j4 p25] [] cp2) p26)) p27]
      (fun E σ H => σ = [some (.ref a), none] ∧ ∀ H', Ext X.K st H H' → E.rt (.str (wordS c)) H') := by
  obtain ⟨_, _, _, _, rfl⟩ := e1
  obtain ⟨_, _, _, _, rfl⟩ := e2
  obtain ⟨_, _, _, _, rfl⟩ := e3
  obtain ⟨_, _, _, _, rfl⟩ := e4
  obtain ⟨_, _, _, _, rfl⟩ := e5
  obtain ⟨_, _, _, _, rfl⟩ := e6
  obtain ⟨_, _, _, _, rfl⟩ := e7
  obtain ⟨_, _, _, _, rfl⟩ := ev
  have hcnt : ([decide (c = 1), decide (c = 2)] ++ [decide (c = 3), decide (c = 4)] ++ [decide (c = 5), decide (c = 6), decide (c = 7)]).count true = 1 := by
    match c, h1, h7 with
    | 1, _, _ => rfl
    | 2, _, _ => rfl
    | 3, _, _ => rfl
    | 4, _, _ => rfl
    | 5, _, _ => rfl
    | 6, _, _ => rfl
    | 7, _, _ => rfl
  refine PSsimpW (pss_cons (w_1 (e1 := .Constant .none 0 p1) (e2 := .Constant .none 0 p1) (p3 := p1) (st := st) h t1 t2) (pss_cons (w_2 (st := st) h (bs := [decide (c = 1), decide (c = 2)]) (bs2 := [decide (c = 3), decide (c = 4)]) (pa_cons t3 (pa_cons t4 pa_nil)) (fun k H Q q => ⟨rfl, rfl, q⟩) (by simp))
    (pss_cons (w_2 (st := st) h (bs := [decide (c = 1), decide (c = 2)] ++ [decide (c = 3), decide (c = 4)]) (bs2 := [decide (c = 5), decide (c = 6), decide (c = 7)]) (pa_cons t5 (pa_cons t6 (pa_cons t7 pa_nil))) (fun k H Q q => ⟨rfl, rfl, rfl, q⟩) (by simp))
    (pss_cons (w_4 (p := p1) h tv hl1 hcnt) (pss_cons (w_5 (p5 := p1) (st := st) h hl2 h1 h7 rfl) pss_nil))))) fun E σ H hw => ?_
  obtain ⟨rfl, q⟩ := hw
  refine ⟨rfl, fun H1 k1 x1 e1 => ⟨k1, rfl, e1, fun H2 k2 x2 e2 => ⟨k2, rfl, e2, fun H3 k3 x3 e3 => ⟨k3, rfl, e3, ⟨k3, rfl, e3, fun H4 x4 => ?_⟩⟩⟩⟩⟩
  exact q H4 (((x1.trans x2).trans x3).trans x4)
end
/-! the checker of the def -/
noncomputable def isIs (C : Str) : Expr → Bool
  | .Call (.Name f _) [.Name y _, .Name c _] [] _ => decide (f = "isinstance") && decide (y = "kept") && decide (c = C)
  | _ => false
theorem isIs_of {C : Str} {e : Expr} (h : isIs C e = true) : ∃ p p2 p3 pos, e = isE C p p2 p3 pos := by
  unfold isIs at h
  split at h
  · simp only [Bool.and_eq_true, decide_eq_true_eq] at h
    obtain ⟨⟨rfl, rfl⟩, rfl⟩ := h
    exact ⟨_, _, _, _, rfl⟩
  · cases h
noncomputable def chW1 : Stmt → Bool
  | .Assign [.Name k _] (.List [a1, a2] _) _ => decide (k = "kinds") && isIs "NoWay" a1 && isIs "BadSum" a2
  | _ => false
noncomputable def chW2 : Stmt → Bool
  | .Assign [.Name k _] (.BinOp (.Name k2 _) .Add (.List [a1, a2] _) _) _ => decide (k = "kinds") && decide (k2 = "kinds") && isIs "NoText" a1 && isIs "NoPicture" a2
  | _ => false
noncomputable def chW3 : Stmt → Bool
  | .Assign [.Name k _] (.BinOp (.Name k2 _) .Add (.List [a1, a2, a3] _) _) _ => decide (k = "kinds") && decide (k2 = "kinds") && isIs "NoRoom" a1 && isIs "NoLine" a2 && isIs "NoDeed" a3
  | _ => false
noncomputable def isMeth (m : Str) : Expr → Bool
  | .Call (.Attribute (.Name k _) n ap) [.Constant (.bool true) _ _] [] cp => decide (k = "kinds") && decide (n = m) && (ap.endLine == cp.line)
  | _ => false
theorem isMeth_of {m : Str} {e : Expr} (h : isMeth m e = true) : ∃ p ap j p2 cp, e = .Call (.Attribute (.Name "kinds" p) m ap) [.Constant (.bool true) j p2] [] cp ∧ (ap.endLine == cp.line) = true := by
  unfold isMeth at h
  split at h
  · simp only [Bool.and_eq_true, decide_eq_true_eq] at h
    obtain ⟨⟨rfl, rfl⟩, h⟩ := h
    exact ⟨_, _, _, _, _, rfl, h⟩
  · cases h
noncomputable def chW4 : Stmt → Bool
  | .If (.BoolOp .Or [.Compare m [.NotEq] [.Constant (.int i) _ _] _, .UnaryOp .Not v _] _) [.Return (some (.Constant (.str _) _ _)) _] [] _ => isMeth "count" m && decide (i = 1) && isIs "ValueError" v
  | _ => false
noncomputable def isStrC (t : Str) : Expr → Bool
  | .Constant (.str z) _ _ => decide (z = t)
  | _ => false
theorem isStrC_of {t : Str} {e : Expr} (h : isStrC t e = true) : ∃ n z, e = .Constant (.str t) n z := by
  unfold isStrC at h
  split at h
  · simp only [decide_eq_true_eq] at h
    subst h
    exact ⟨_, _, rfl⟩
  · cases h
noncomputable def chW5 : Stmt → Bool
  | .Return (some (.Subscript (.Tuple [t1, t2, t3, t4, t5, t6, t7] _ _) m _)) _ => isStrC "no way" t1 && isStrC "bad sum" t2 && isStrC "no text" t3 && isStrC "no picture" t4 && isStrC "no room" t5 && isStrC "no line" t6 && isStrC "no deed" t7 && isMeth "index" m
  | _ => false
noncomputable def chW : List Stmt → Bool
  | [s1, s2, s3, s4, s5] => chW1 s1 && chW2 s2 && chW3 s3 && chW4 s4 && chW5 s5
  | _ => false
theorem word_ch {X : Cx} {a D : Addr} {st : Sto} (h : WCx X a D) {c : Nat} (h1 : 1 ≤ c) (h7 : c ≤ 7) {ss : List Stmt} (hc : chW ss = true)
    (t : ∀ (C : Str) (n : Nat), (C, n) ∈ ([("NoWay", 1), ("BadSum", 2), ("NoText", 3), ("NoPicture", 4), ("NoRoom", 5), ("NoLine", 6), ("NoDeed", 7)] : List (Str × Nat)) → ∀ p p2 p3 pos, L2.PE X (isE C p p2 p3 pos) (tI a (decide (c = n))))
    (tv : ∀ p p2 p3 pos, L2.PE X (isE "ValueError" p p2 p3 pos) (tI a true)) :
    L2.PSs X ss (fun E σ H => σ = [some (.ref a), none] ∧ ∀ H', Ext X.K st H H' → E.rt (.str (wordS c)) H') := by
  unfold chW at hc
  split at hc
  · rename_i s1 s2 s3 s4 s5
    simp only [Bool.and_eq_true] at hc
    obtain ⟨⟨⟨⟨c1, c2⟩, c3⟩, c4⟩, c5⟩ := hc
    unfold chW1 at c1
    split at c1
    · unfold chW2 at c2
      split at c2
      · unfold chW3 at c3
        split at c3
        · unfold chW4 at c4
          split at c4
          · unfold chW5 at c5
            split at c5
            · simp only [Bool.and_eq_true, decide_eq_true_eq] at c1 c2 c3 c4 c5
              obtain ⟨⟨rfl, i1⟩, i2⟩ := c1
              obtain ⟨⟨⟨rfl, rfl⟩, i3⟩, i4⟩ := c2
              obtain ⟨⟨⟨⟨rfl, rfl⟩, i5⟩, i6⟩, i7⟩ := c3
              obtain ⟨⟨m1, rfl⟩, iv⟩ := c4
              obtain ⟨⟨⟨⟨⟨⟨⟨k1, k2⟩, k3⟩, k4⟩, k5⟩, k6⟩, k7⟩, m2⟩ := c5
              obtain ⟨_, _, rfl⟩ := isStrC_of k1
              obtain ⟨_, _, rfl⟩ := isStrC_of k2
              obtain ⟨_, _, rfl⟩ := isStrC_of k3
              obtain ⟨_, _, rfl⟩ := isStrC_of k4
              obtain ⟨_, _, rfl⟩ := isStrC_of k5
              obtain ⟨_, _, rfl⟩ := isStrC_of k6
              obtain ⟨_, _, rfl⟩ := isStrC_of k7
              obtain ⟨_, _, _, _, _, rfl, l1⟩ := isMeth_of m1
              obtain ⟨_, _, _, _, _, rfl, l2⟩ := isMeth_of m2
              have fi : ∀ {C : Str} {n : Nat} {e : Expr}, (C, n) ∈ ([("NoWay", 1), ("BadSum", 2), ("NoText", 3), ("NoPicture", 4), ("NoRoom", 5), ("NoLine", 6), ("NoDeed", 7)] : List (Str × Nat)) → isIs C e = true → L2.PE X e (tI a (decide (c = n))) := fun hm hi => by
                obtain ⟨_, _, _, _, rfl⟩ := isIs_of hi
                exact t _ _ hm _ _ _ _
              have fv : ∀ {e : Expr}, isIs "ValueError" e = true → L2.PE X e (tI a true) := fun hi => by
                obtain ⟨_, _, _, _, rfl⟩ := isIs_of hi
                exact tv _ _ _ _
              exact word_body h h1 h7 (isIs_of i1) (isIs_of i2) (isIs_of i3) (isIs_of i4) (isIs_of i5) (isIs_of i6) (isIs_of i7) (isIs_of iv) (fi (by simp) i1) (fi (by simp) i2) (fi (by simp) i3) (fi (by simp) i4) (fi (by simp) i5) (fi (by simp) i6) (fi (by simp) i7) (fv iv) l1 l2
            · cases c5
          · cases c4
        · cases c3
      · cases c2
    · cases c1
  · cases hc
noncomputable def isLocW (sc : Scope) (x : Str) : Bool := match sc.names.lookup x with
  | some .local => true
  | _ => false
noncomputable def isGlW (sc : Scope) (x : Str) : Bool := match sc.names.lookup x with
  | some .globalImplicit => true
  | _ => false
/-- what the scope of the def must say -/
noncomputable def scW (sc : Scope) : Bool := isLocW sc "kept" && isLocW sc "kinds" && (["isinstance", "ValueError", "NoWay", "BadSum", "NoText", "NoPicture", "NoRoom", "NoLine", "NoDeed"] : List Str).all (isGlW sc)
theorem isLocW_of {sc : Scope} {x : Str} (h : isLocW sc x = true) : sc.names.lookup x = some .local := by
  unfold isLocW at h
  split at h
  · assumption
  · cases h
theorem isGlW_of {sc : Scope} {x : Str} (h : isGlW sc x = true) : sc.names.lookup x = some .globalImplicit := by
  unfold isGlW at h
  split at h
  · assumption
  · cases h
/-- the def of the words of refusals, and what stands around it -/
structure WordF (K : PySem.W.Frag) (mg : Str → Option Value) (cl : Nat → Value) (x : Str) : Prop where
  fn : ∃ (f : Addr) (fd : FuncData) (nm qual : Str) (st : Stmt), mg x = some (.ref f) ∧ L2.Fun K nm qual st f fd ∧ FnScope ["kept", "kinds"] ["kept"] (defScope st) ∧ chW (defBody st) = true ∧ scW (defScope st) = true ∧ Binds K fd ["kept"] []
  bi : mg "isinstance" = none
  bv : mg "ValueError" = none
  cs : ∀ (C : Str) (n : Nat), (C, n) ∈ ([("NoWay", 1), ("BadSum", 2), ("NoText", 3), ("NoPicture", 4), ("NoRoom", 5), ("NoLine", 6), ("NoDeed", 7)] : List (Str × Nat)) → mg C = some (cl n)
  wr : ∀ c, 1 ≤ c → c ≤ 7 → WrdAt K cl c
/-- the call, where the exception is held -/
theorem pe_word {Y : Cx} {a : Addr} {oe : Obj} {cl : Nat → Value} {c i : Nat} {st : Sto} {x n : Str} {q p2 pos : Pos} (W : WordF Y.K Y.mg cl x) (h1 : 1 ≤ c) (h7 : c ≤ 7) (hp : (a, oe) ∈ Y.pn) (hz : Zc (cl c) none oe) (hf : ∃ vs, oe.data = .fields vs) (hr : L2H.RoomH 1 Y.A)
    (hg : Gl Y x) (hdb : (x == ("__debug__" : Str)) = false) (hN : Y.N[i]? = some n) (hv : Vis Y.env.scope n) (hd : (n == ("__debug__" : Str)) = false) (hcd : (n == ("__classdict__" : Str)) = false) :
    L2.PE Y (.Call (.Name x q) [.Name n p2] [] pos) (fun σ H Q => σ[i]? = some (some (.ref a)) ∧ ∀ H', Ext Y.K st H H' → Q (.str (wordS c)) H') := by
  obtain ⟨f, fd, nm, qual, sd, hm, F, S, hch, hsc, hb⟩ := W.fn
  obtain ⟨oc, od, kV, doc, pm, an, cdv, ct, osl, rfl, lk, hcd2⟩ := F.ex
  obtain ⟨D, hcl, hEx, hkv⟩ := (W.wr c h1 h7).ex
  rw [hcl] at hz
  have ha : L2.PA Y [.Name n p2] (tCons (tVar i) tNil) := pa_cons (pe_var hN hv hd hcd) pa_nil
  refine ⟨fun pins s σ H Q I h => ?_⟩
  refine wpAny_Call_Name_kw (ld_glob I hg hm ?_ hdb)
  refine PySem.W.callWith_K (h₀ := Y.base) I.ok.mod.kin F.kp (thn (ha.run pos pins s σ H (fun vs H1 => vs = [V.ref a] ∧ H1 = H) I ⟨.ref a, h.1, rfl, rfl⟩) fun us s1 ⟨vs, H1, I1, r, e1, e2⟩ => ⟨I1.kIn, ?_⟩) rfl rfl
  subst e1 e2
  have P1 := I1.pin (a, oe) (List.mem_append_left _ hp)
  have hpin : L2H.PinOk Y.stack H1 s1 (a, oe) := ⟨P1.1, P1.2.1, fun hm => (List.mem_cons.mp (I1.stkSub a hm)).elim P1.2.2.1 P1.2.2.2.1, P1.2.2.2.2⟩
  have e0 := I1.env0
  have hlu : us.length = 1 := by rw [← r.length]; rfl
  have hbs := hb s1 us I1.kIn (by rw [List.append_nil]; exact hlu)
  rw [List.append_nil] at hbs
  have KX : Y.K.In s1.heap := e0.mod.kin.keeps fun b o z => (e0.bs b o z).1
  have lim : s1.heap.NoLimit := e0.mod.nolimit.keeps fun b o z => (e0.bs b o z).1
  refine wpAny_call (codeAny_mono (R := CR (L2.CX Y.prog Y.w) Y.stack Y.prog Y.w H1 s1 (fun v H' => v = .str (wordS c) ∧ Ext Y.K st H1 H') (fun _ _ _ => False)) ?_ fun res s' hq => ?_)
  · have hkind : ∀ y ∈ (["kept"] : List Str).zip us, (defScope sd).names.lookup y.1 = some .local ∨ ((defScope sd).names.lookup y.1 = some .cell ∧ ((cellsFrom (s1.heap.objs.size + 1) (defScope sd).names []).lookup y.1).isSome = true) := fun ⟨m, v⟩ hy => by
      rcases S.par m (List.of_mem_zip hy).1 with z | z
      · exact .inl z
      · exact .inr ⟨z, PySem.W.cellsFrom_some _ _ _ (.inl z)⟩
    refine codeAny_call_function hr.depth (KX _ _ lk) rfl S.co S.gen rfl (PySem.W.codeRec_of KX hcd2) (hbs _ _ _ _ ?_)
    refine wpAny_newFunctionEnv_cells S.kind hkind fun env he s2 x2 => ?_
    subst he
    refine ⟨lim.keeps x2.toInCall.keep, codeAny_func ?_⟩
    have J := L2H.inv_startH (CX := L2.CX Y.prog Y.w) (E := fun _ _ _ => False) S hpin e0 (vs := [V.ref a]) rfl r x2
    unfold scW at hsc
    simp only [Bool.and_eq_true, List.all_eq_true] at hsc
    have gl : ∀ y ∈ (["isinstance", "ValueError", "NoWay", "BadSum", "NoText", "NoPicture", "NoRoom", "NoLine", "NoDeed"] : List Str), (defScope sd).names.lookup y = some .globalImplicit := fun y hy => isGlW_of (hsc.2 y hy)
    have wcx : WCx (L2H.cxH (L2.CX Y.prog Y.w) Y.prog Y.w Y.K Y.mg Y.base ["kept", "kinds"] qual (defScope sd) f cdv Y.A Y.stack s1 H1 (fun _ _ _ => False) (a, oe)) a D :=
      ⟨rfl, rfl, S.nd, .inl (isLocW_of hsc.1.1), .inl (isLocW_of hsc.1.2), .inl (isLocW_of hsc.1.2), .inr (isLocW_of hsc.1.2), gl _ (by simp), W.bi, gl _ (by simp), W.bv, call_isW (by simp [L2H.cxH]) hEx hz hf⟩
    have body := word_ch (st := st) wcx h1 h7 hch (fun C m hm p p2 p3 pos => by
      obtain ⟨D2, hcl2, _⟩ := (W.wr m (by simp at hm; omega) (by simp at hm; omega)).ex
      have hk := (W.wr c h1 h7).one m (by simp at hm; omega) (by simp at hm; omega)
      rw [hcl, hcl2] at hk
      have hmC := W.cs C m hm
      rw [hcl2] at hmC
      refine pe_isC wcx (gl C ?_) hmC ?_ hk
      · simp at hm
        rcases hm with ⟨rfl, _⟩ | ⟨rfl, _⟩ | ⟨rfl, _⟩ | ⟨rfl, _⟩ | ⟨rfl, _⟩ | ⟨rfl, _⟩ | ⟨rfl, _⟩ <;> simp
      · simp at hm
        rcases hm with ⟨rfl, _⟩ | ⟨rfl, _⟩ | ⟨rfl, _⟩ | ⟨rfl, _⟩ | ⟨rfl, _⟩ | ⟨rfl, _⟩ | ⟨rfl, _⟩ <;> decide +kernel) (fun p p2 p3 pos => pe_isV wcx hkv)
    refine wpAny_mono (body.run [] s2 _ H1 { nx := fun _ _ => False, rt := fun v H' => v = .str (wordS c) ∧ Ext Y.K st H1 H' } J ⟨rfl, fun H' x => ⟨rfl, x⟩⟩) (fun fl s' hs => ?_) fun e s' hs => hs
    cases fl with
    | ret u =>
      obtain ⟨v, σ', H', J', rv, q⟩ := hs
      exact ⟨v, H', J'.os, J'.bare, J'.base, J'.hok, rv, q⟩
    | next =>
      obtain ⟨_, _, _, z⟩ := hs
      exact z.elim
    | brk =>
      obtain ⟨_, _, _, z⟩ := hs
      exact z.elim
    | cont =>
      obtain ⟨_, _, _, z⟩ := hs
      exact z.elim
  · cases res with
    | error e =>
      obtain ⟨_, _, _, _, _, _, _, _, _, _, _, _, z⟩ := hq
      exact z.elim
    | ok fl =>
      cases fl with
      | ret u =>
        obtain ⟨v, H', I2, rv, rfl, x⟩ := I1.after hq
        exact ⟨_, H', I2, rv, h.2 H' x⟩
      | next => exact hq.elim
      | brk => exact hq.elim
      | cont => exact hq.elim
end PL

/-! PLd: dicts; x or y by truth. -/
namespace PL
open PySem L2
section
variable {K : PySem.W.Frag} {w : Wd}
theorem dct_at {st : Sto} {x : PV} {u : V} {t : Bool} {kvs : DC} (ok : StOk K w st) (r : Rep K w x u) (h : dctAt t st x = some kvs) :
    ∃ (l : Nat) (a : Addr), x = .ref l ∧ u = .ref a ∧ st[l]? = some (.dct t kvs) ∧ w.m[l]? = some (some a) ∧ CellOk K w a (.dct t kvs) := by
  unfold dctAt at h
  split at h
  · rename_i l
    split at h
    · rename_i t' kvs' hc
      split at h
      · rename_i e
        subst e
        cases h
        cases r with
        | ref e =>
          obtain ⟨c, hc2, o⟩ := ok.cell _ _ e
          rw [hc] at hc2
          cases hc2
          exact ⟨l, _, rfl, rfl, hc, e, o⟩
        | gone e =>
          have := ok.gone _ e
          rw [hc] at this
          cases this
      · cases h
    · cases h
  · cases h
theorem ky_rep {x : PV} {u : V} {k : KP} (r : Rep K w x u) (h : kyV x = some k) : u = kV (toK k) := by
  unfold kyV at h
  split at h
  · cases h
    cases r.int_inv
    rfl
  · rename_i s
    cases h
    cases r with
    | str z hz =>
      show V.str z = V.str ⟨z.cps.toList.toArray⟩
      rw [str_eq]
  · cases h
theorem kys_rep : ∀ {vs : List PV} {us : List V} {k : List KP}, Reps K w vs us → kysV vs = some k → us = (k.map toK).map kV
  | _, _, k, .nil, h => by
    simp only [kysV, Option.some.injEq] at h
    subst h
    rfl
  | _, _, k, .cons r rs, h => by
    simp only [kysV, Option.bind_eq_some_iff, Option.map_eq_some_iff] at h
    obtain ⟨k1, h1, k2, h2, rfl⟩ := h
    rw [ky_rep r h1, kys_rep rs h2]
    rfl
theorem RdR.up {α β : Type} {cl : Nat → Value} {E : XK} {R : Wd → α → β → Prop} {w' : Wd} {r : Res α} {Q : β → Hp → Prop} (h : RdR K cl E R w r Q) (hw : w.le w') : RdR K cl E R w' r Q := by
  cases r with
  | ok a st => exact fun w2 b l s r => h w2 b (hw.trans l) s r
  | exc c st => exact fun w2 l s => h w2 (hw.trans l) s
  | stuck => exact h
/-- the dict's own entry -/
theorem dct_getT {a b : Addr} {kvs : DC} {k : List KP} (ok : CellOk K w a (.dct true kvs)) (hy : w.H b = some (.tup ((k.map toK).map kV))) :
    ∃ o, DGet w.H a (.ref b) o ∧ ((dlook kvs k = none ∧ o = none) ∨ ∃ x u, dlook kvs k = some x ∧ o = some u ∧ Rep K w x u) := by
  obtain ⟨us, h1, r⟩ := ok
  exact ⟨valV us (k.map toK), DGet.t h1 hy, r.look k⟩
theorem dct_getF {a : Addr} {kvs : DC} {k : KP} (ok : CellOk K w a (.dct false kvs)) :
    ∃ o, DGet w.H a (kV (toK k)) o ∧ ((dlook kvs [k] = none ∧ o = none) ∨ ∃ x u, dlook kvs [k] = some x ∧ o = some u ∧ Rep K w x u) := by
  obtain ⟨us, h1, r⟩ := ok
  refine ⟨valV us (toK k), DGet.k h1, ?_⟩
  have := r.look [k]
  rw [List.map_cons, List.map_nil, lone_val] at this
  exact this
theorem dct_is {a : Addr} {t : Bool} {kvs : DC} (ok : CellOk K w a (.dct t kvs)) : IsD w.H a := by
  cases t with
  | true => obtain ⟨us, h1, _⟩ := ok; exact .inr ⟨us, .inl h1⟩
  | false => obtain ⟨us, h1, _⟩ := ok; exact .inl ⟨us, .inl h1⟩
theorem key_T {vs : List PV} {k : List KP} (h : keyV true vs = some k) : kysV vs = some k ∧ vs.length ≤ 100 := by
  unfold keyV at h
  split at h
  · rename_i z
    simp at z
    exact ⟨h, z⟩
  · cases h
theorem key_F {vs : List PV} {k : List KP} (h : keyV false vs = some k) : ∃ x y, vs = [x] ∧ k = [y] ∧ kyV x = some y := by
  unfold keyV at h
  split at h
  · rename_i z
    simp at z
    obtain ⟨x, rfl⟩ := List.length_eq_one_iff.mp z.2
    simp only [kysV, Option.bind_eq_some_iff, Option.map_eq_some_iff] at h
    obtain ⟨y, h1, k2, h2, rfl⟩ := h
    simp at h2
    subst h2
    exact ⟨x, y, rfl, rfl, h1⟩
  · cases h
end
section
variable {X : Cx} {cl : Nat → Value} {W : WX} {cf : CF} {pos : Pos} {a b c : Expr} {pa pb pc : PX}
theorem x_nd {t : Bool} : L2.PE X (.Dict [] [] pos) (rdE X.K cl W cf (.nd t)) := by
  cases t with
  | true =>
    refine PEimp pe_dnewT fun σ H Q h => ?_
    obtain ⟨w, e, st, rfl, he, hs, h⟩ := h
    simp only [ev] at h
    intro p hp
    exact Gets.locO (fun w' u a b c => h w' u a b c) hs hp ⟨[], upd_same, .nil⟩
  | false =>
    refine PEimp pe_dnewK fun σ H Q h => ?_
    obtain ⟨w, e, st, rfl, he, hs, h⟩ := h
    simp only [ev] at h
    intro p hp
    exact Gets.locO (fun w' u a b c => h w' u a b c) hs hp ⟨[], upd_same, .nil⟩
theorem x_dgtT {es : List Expr} {ks : PXs} {kt : Nat} {tpos apos : Pos} {o f : Expr} {px : PX} (hu : X.A.units + 1 < cLine) (ho : L2.PE X o (rdE X.K cl W cf pa)) (hk : L2.PA X es (rdA X.K cl W cf ks)) (hf : L2.PE X f (rdE X.K cl W cf px))
    (m : M2 X o "get" apos (.Tuple es kt tpos) f pos) : L2.PE X (.Call (.Attribute o "get" apos) [.Tuple es kt tpos, f] [] pos) (rdE X.K cl W cf (.dgt true pa ks px)) := by
  refine PEimp (pe_dget2 hu ho (pe_tup hk) hf m) fun σ H Q h => ?_
  obtain ⟨w, e, st, rfl, he, hs, h⟩ := h
  simp only [ev] at h
  refine ⟨w, e, st, rfl, he, hs, h.bind.mono fun x H1 hQ => ?_⟩
  obtain ⟨w1, v1, st1, e1, hw1, hs1, r1, h1⟩ := hQ
  subst e1
  split at h1
  · rename_i hd
    obtain ⟨kvs, hkv⟩ := Option.isSome_iff_exists.mp hd
    obtain ⟨l, a, rfl, rfl, _, _, ok⟩ := dct_at hs1 r1 hkv
    refine ⟨a, rfl, dct_is ok, ?_⟩
    refine ⟨w1, e, st1, rfl, he.mono hw1, hs1, h1.bind.mono fun us H2 hQ => ?_⟩
    obtain ⟨w2, vs, st2, e2, hw2, hs2, r2, h2⟩ := hQ
    subst e2
    cases hkk : keyV true vs with
    | none => rw [hkk] at h2; exact h2.elim
    | some k =>
      rw [hkk] at h2
      simp only [Res.ofO, Res.bind] at h2
      obtain ⟨hky, hl⟩ := key_T hkk
      refine ⟨by rw [← r2.length, sizeLine_eq]; omega, fun p hp => ?_⟩
      have hw3 := Wd.put_le (o := .tup us) hp
      have hs3 := hs2.put (o := .tup us) hp
      refine ⟨w2.put p (.tup us), e, st2, rfl, ((he.mono hw1).mono hw2).mono hw3, hs3, (RdR.up h2 hw3).bind.mono fun z H3 hQ => ?_⟩
      obtain ⟨w4, v4, st4, e4, hw4, hs4, r4, h4⟩ := hQ
      subst e4
      cases hq : dctAt true st4 (.ref l) with
      | none => rw [hq] at h4; exact h4.elim
      | some kvs4 =>
        rw [hq] at h4
        obtain ⟨l', a', e5, e6, _, _, ok4⟩ := dct_at hs4 (((r1.mono hw2).mono hw3).mono hw4) hq
        cases e6
        have hb : w4.H p = some (.tup ((k.map toK).map kV)) := by
          rw [← kys_rep r2 hky]
          exact hw4.keep p _ upd_same (hs2.new hp)
        obtain ⟨o, hg, hr⟩ := dct_getT ok4 hb
        refine ⟨o, hg, ?_⟩
        rcases hr with ⟨z1, rfl⟩ | ⟨x, u, z1, rfl, rx⟩
        · simp only [Option.map, z1, Option.getD] at h4
          exact h4 w4 _ (.refl w4) hs4 r4
        · simp only [Option.map, z1, Option.getD] at h4
          exact h4 w4 _ (.refl w4) hs4 rx
  · exact h1.elim
theorem x_dgtF {i : Expr} {pk : PX} {apos : Pos} {o f : Expr} {px : PX} (hu : X.A.units + 1 < cLine) (ho : L2.PE X o (rdE X.K cl W cf pa)) (hk : L2.PE X i (rdE X.K cl W cf pk)) (hf : L2.PE X f (rdE X.K cl W cf px))
    (m : M2 X o "get" apos i f pos) : L2.PE X (.Call (.Attribute o "get" apos) [i, f] [] pos) (rdE X.K cl W cf (.dgt false pa (.cons pk .nil) px)) := by
  refine PEimp (pe_dget2 hu ho hk hf m) fun σ H Q h => ?_
  obtain ⟨w, e, st, rfl, he, hs, h⟩ := h
  simp only [ev] at h
  refine ⟨w, e, st, rfl, he, hs, h.bind.mono fun x H1 hQ => ?_⟩
  obtain ⟨w1, v1, st1, e1, hw1, hs1, r1, h1⟩ := hQ
  subst e1
  split at h1
  · rename_i hd
    obtain ⟨kvs, hkv⟩ := Option.isSome_iff_exists.mp hd
    obtain ⟨l, a, rfl, rfl, _, _, ok⟩ := dct_at hs1 r1 hkv
    refine ⟨a, rfl, dct_is ok, ?_⟩
    simp only [evs, Res.bind_bind, Res.bind_ok] at h1
    refine ⟨w1, e, st1, rfl, he.mono hw1, hs1, h1.bind.mono fun u2 H2 hQ => ?_⟩
    obtain ⟨w2, x2, st2, e2, hw2, hs2, r2, h2⟩ := hQ
    subst e2
    cases hkk : keyV false [x2] with
    | none => rw [hkk] at h2; exact h2.elim
    | some k =>
      rw [hkk] at h2
      simp only [Res.ofO, Res.bind_ok] at h2
      obtain ⟨_, k1, e3, rfl, hky⟩ := key_F hkk
      cases e3
      refine ⟨w2, e, st2, rfl, (he.mono hw1).mono hw2, hs2, h2.bind.mono fun z H3 hQ => ?_⟩
      obtain ⟨w4, v4, st4, e4, hw4, hs4, r4, h4⟩ := hQ
      subst e4
      cases hq : dctAt false st4 (.ref l) with
      | none => rw [hq] at h4; exact h4.elim
      | some kvs4 =>
        rw [hq] at h4
        obtain ⟨l', a', e5, e6, _, _, ok4⟩ := dct_at hs4 ((r1.mono hw2).mono hw4) hq
        cases e6
        rw [ky_rep r2 hky]
        obtain ⟨o, hg, hr⟩ := dct_getF (k := k1) ok4
        refine ⟨o, hg, ?_⟩
        rcases hr with ⟨z1, rfl⟩ | ⟨x, u, z1, rfl, rx⟩
        · simp only [Option.map, z1, Option.getD] at h4
          exact h4 w4 _ (.refl w4) hs4 r4
        · simp only [Option.map, z1, Option.getD] at h4
          exact h4 w4 _ (.refl w4) hs4 rx
  · exact h1.elim
theorem x_datF {i : Expr} {pk : PX} {o : Expr} (hu : X.A.units + 1 < cLine) (ho : L2.PE X o (rdE X.K cl W cf pa)) (hk : L2.PE X i (rdE X.K cl W cf pk)) (hn : NoSl i) : L2.PE X (.Subscript o i pos) (rdE X.K cl W cf (.dat false pa (.cons pk .nil))) := by
  refine PEimp (pe_dget hu ho hk hn) fun σ H Q h => ?_
  obtain ⟨w, e, st, rfl, he, hs, h⟩ := h
  simp only [ev] at h
  refine ⟨w, e, st, rfl, he, hs, h.bind.mono fun x H1 hQ => ?_⟩
  obtain ⟨w1, v1, st1, e1, hw1, hs1, r1, h1⟩ := hQ
  subst e1
  simp only [evs, Res.bind_bind, Res.bind_ok] at h1
  refine ⟨w1, e, st1, rfl, he.mono hw1, hs1, h1.bind.mono fun u2 H2 hQ => ?_⟩
  obtain ⟨w2, x2, st2, e2, hw2, hs2, r2, h2⟩ := hQ
  subst e2
  cases hkk : keyV false [x2] with
  | none => rw [hkk] at h2; exact h2.elim
  | some k =>
    rw [hkk] at h2
    simp only [Res.ofO, Res.bind_ok] at h2
    obtain ⟨_, k1, e3, rfl, hky⟩ := key_F hkk
    cases e3
    cases hq : dctAt false st2 v1 with
    | none => rw [hq] at h2; exact h2.elim
    | some kvs4 =>
      rw [hq] at h2
      obtain ⟨l', a', rfl, rfl, _, _, ok4⟩ := dct_at hs2 (r1.mono hw2) hq
      rw [ky_rep r2 hky]
      obtain ⟨o, hg, hr⟩ := dct_getF (k := k1) ok4
      rcases hr with ⟨z1, rfl⟩ | ⟨x, u, z1, rfl, rx⟩
      · simp only [Option.bind, z1] at h2
        exact h2.elim
      · simp only [Option.bind, z1] at h2
        exact ⟨a', u, rfl, hg, h2 w2 _ (.refl w2) hs2 rx⟩
theorem o_din (hu : X.A.units + 1 < cLine) (n : Bool) : OpR X (compareOp (if n then .NotIn else .In)) (fun x y H Q => ∃ a o, y = .ref a ∧ DGet H a x o ∧ Q (.bl (o.isSome != n)) H) := by
  intro pins s σ H x y v u Q I rx ry h
  obtain ⟨a, o, rfl, g, q⟩ := h
  obtain rfl : u = Value.ref a := ry
  cases n with
  | true =>
    refine d_notIn hu I g rx fun s3 I3 => ⟨.bl (!o.isSome), H, I3, rfl, ?_⟩
    cases o <;> exact q
  | false =>
    refine d_in hu I g rx fun s3 I3 => ⟨.bl o.isSome, H, I3, rfl, ?_⟩
    cases o <;> exact q
theorem x_dinF {i : Expr} {pk : PX} {o : Expr} {n : Bool} (hu : X.A.units + 1 < cLine) (ho : L2.PE X o (rdE X.K cl W cf pa)) (hk : L2.PE X i (rdE X.K cl W cf pk)) (hm : behindInMarks (if n then .NotIn else .In) o = false) : L2.PE X (.Compare i [if n then .NotIn else .In] [o] pos) (rdE X.K cl W cf (.din false n (.cons pk .nil) pa)) := by
  refine PEimp (pe_cmpR (o_din hu n) hk ho hm) fun σ H Q h => ?_
  obtain ⟨w, e, st, rfl, he, hs, h⟩ := h
  simp only [ev, evs, Res.bind_bind, Res.bind_ok] at h
  refine ⟨w, e, st, rfl, he, hs, h.bind.mono fun u2 H1 hQ => ?_⟩
  obtain ⟨w1, x2, st1, e1, hw1, hs1, r1, h1⟩ := hQ
  subst e1
  cases hkk : keyV false [x2] with
  | none => rw [hkk] at h1; exact h1.elim
  | some k =>
    rw [hkk] at h1
    simp only [Res.ofO, Res.bind_ok] at h1
    obtain ⟨_, k1, e3, rfl, hky⟩ := key_F hkk
    cases e3
    refine ⟨w1, e, st1, rfl, he.mono hw1, hs1, h1.bind.mono fun x H2 hQ => ?_⟩
    obtain ⟨w2, v1, st2, e2, hw2, hs2, r2, h2⟩ := hQ
    subst e2
    cases hq : dctAt false st2 v1 with
    | none => rw [hq] at h2; exact h2.elim
    | some kvs4 =>
      rw [hq] at h2
      obtain ⟨l', a', rfl, rfl, _, _, ok4⟩ := dct_at hs2 r2 hq
      rw [ky_rep r1 hky]
      obtain ⟨o, hg, hr⟩ := dct_getF (k := k1) ok4
      refine ⟨a', o, rfl, hg, ?_⟩
      rcases hr with ⟨z1, rfl⟩ | ⟨x, u, z1, rfl, rx⟩
      · simp only [Option.map, z1] at h2
        exact h2 w2 _ (.refl w2) hs2 (.bl _)
      · simp only [Option.map, z1] at h2
        exact h2 w2 _ (.refl w2) hs2 (.bl _)
theorem x_orv (ha : L2.PE X a (rdE X.K cl W cf pa)) (hb : L2.PE X b (rdE X.K cl W cf pb)) : L2.PE X (.BoolOp .Or [a, b] pos) (rdE X.K cl W cf (.orv pa pb)) := by
  refine PEimp (pe_orT ha (pe_one hb)) fun σ H Q h => ?_
  obtain ⟨w, e, st, rfl, he, hs, h⟩ := h
  simp only [ev] at h
  refine ⟨w, e, st, rfl, he, hs, h.bind.mono fun x H1 hQ => ?_⟩
  obtain ⟨w1, v1, st1, e1, hw1, hs1, r1, h1⟩ := hQ
  subst e1
  cases hk : truV (deref st1 v1) with
  | none => rw [hk] at h1; exact h1.elim
  | some k =>
    rw [hk] at h1
    simp only [Res.ofO, Res.bind_ok] at h1
    refine ⟨k, truV_ok (r1.deref hs1) hk, ?_⟩
    cases k with
    | true =>
      simp only [if_true] at h1 ⊢
      exact h1 w1 _ (.refl w1) hs1 r1
    | false =>
      simp only [Bool.false_eq_true, if_false] at h1 ⊢
      exact ⟨w1, e, st1, rfl, he.mono hw1, hs1, h1⟩
end
end PL

/-! PLe: setdefault; dicts with written entries. -/
namespace PL
open PySem L2
theorem dset_inv {t : Bool} {y v : PV} {k : List KP} {st st5 : Sto} (h : dsetV t y k st v = some st5) : ∃ l kvs, v = .ref l ∧ dctAt t st v = some kvs ∧ kvs.length < SZ ∧ st5 = st.set l (.dct t (dput kvs k y)) := by
  unfold dsetV at h
  split at h
  · rename_i l
    split at h
    · rename_i u kvs hc
      split at h
      · rename_i hz
        obtain ⟨rfl, hz⟩ := hz
        cases h
        exact ⟨l, kvs, rfl, by simp [dctAt, hc], hz, rfl⟩
      · cases h
    · cases h
  · cases h
section
variable {X : Cx} {cl : Nat → Value} {W : WX} {cf : CF} {pos : Pos} {pa : PX}
theorem x_dsd {i : Expr} {pk : PX} {apos : Pos} {o f : Expr} {px : PX} (ho : L2.PE X o (rdE X.K cl W cf pa)) (hk : L2.PE X i (rdE X.K cl W cf pk)) (hf : L2.PE X f (rdE X.K cl W cf px))
    (m : M2 X o "setdefault" apos i f pos) : L2.PE X (.Call (.Attribute o "setdefault" apos) [i, f] [] pos) (rdE X.K cl W cf (.dsd pa pk px)) := by
  refine PEimp (pe_dsetd ho hk hf m) fun σ H Q h => ?_
  obtain ⟨w, e, st, rfl, he, hs, h⟩ := h
  simp only [ev] at h
  refine ⟨w, e, st, rfl, he, hs, h.bind.mono fun x H1 hQ => ?_⟩
  obtain ⟨w1, v1, st1, e1, hw1, hs1, r1, h1⟩ := hQ
  subst e1
  split at h1
  · rename_i hd
    obtain ⟨kvs, hkv⟩ := Option.isSome_iff_exists.mp hd
    obtain ⟨l, a, rfl, rfl, _, _, ok⟩ := dct_at hs1 r1 hkv
    refine ⟨a, rfl, dct_is ok, ?_⟩
    refine ⟨w1, e, st1, rfl, he.mono hw1, hs1, h1.bind.mono fun u2 H2 hQ => ?_⟩
    obtain ⟨w2, x2, st2, e2, hw2, hs2, r2, h2⟩ := hQ
    subst e2
    cases hkk : keyV false [x2] with
    | none => rw [hkk] at h2; exact h2.elim
    | some k =>
      rw [hkk] at h2
      simp only [Res.ofO, Res.bind_ok] at h2
      obtain ⟨_, k1, e3, rfl, hky⟩ := key_F hkk
      cases e3
      refine ⟨w2, e, st2, rfl, (he.mono hw1).mono hw2, hs2, h2.bind.mono fun z H3 hQ => ?_⟩
      obtain ⟨w4, v4, st4, e4, hw4, hs4, r4, h4⟩ := hQ
      subst e4
      cases hq : dctAt false st4 (.ref l) with
      | none => rw [hq] at h4; exact h4.elim
      | some kvs4 =>
        rw [hq] at h4
        obtain ⟨l', a', e5, e6, _, em, ok4⟩ := dct_at hs4 ((r1.mono hw2).mono hw4) hq
        cases e5
        cases e6
        have hg := dct_getF (k := k1) ok4
        obtain ⟨ud, hH, rd⟩ := ok4
        simp only [dsdE] at h4
        split at h4
        · rename_i hz
          have hlen : ud.length < sizeLine := by
            have := rd.length
            simp only [lone, List.length_map] at this
            rw [← this, sizeLine_eq]; exact hz
          have hl := rd.look [k1]
          rw [List.map_cons, List.map_nil, lone_val] at hl
          refine ⟨ud, toK k1, hH, ky_rep r2 hky, hlen, fun v hv => ?_, fun hn => ?_⟩
          · rcases hl with ⟨_, z2⟩ | ⟨x, u, z1, z2, rx⟩
            · rw [hv] at z2; cases z2
            · rw [hv] at z2
              cases z2
              rw [z1] at h4
              exact h4 w4 _ (.refl w4) hs4 rx
          · rcases hl with ⟨z1, _⟩ | ⟨x, u, z1, z2, rx⟩
            · rw [z1] at h4
              simp only at h4
              split at h4
              · rename_i st5 hq5
                obtain ⟨l2, kvs5, e7, hd5, hz5, rfl⟩ := dset_inv hq5
                cases e7
                rw [hq] at hd5
                cases hd5
                have hw5 := Wd.ow_le (w := w4) (o := .dK (putK ud (toK k1) z)) (m_mem em) (fun _ _ z => by rw [hH] at z; cases z)
                have hp := RepD.put [k1] (r4.mono hw5) (rd.mono hw5)
                rw [List.map_cons, List.map_nil, lone_put] at hp
                exact h4 (w4.ow a (.dK (putK ud (toK k1) z))) _ hw5 (hs4.ow em ⟨_, upd_same, hp⟩) (r4.mono hw5)
              · exact h4.elim
            · rw [hn] at z2; cases z2
        · exact h4.elim
  · exact h1.elim
theorem x_tdin {i : Expr} {pk : PX} {o : Expr} {n : Bool} (hu : X.A.units + 1 < cLine) (ho : L2.PE X o (rdE X.K cl W cf pa)) (hk : L2.PE X i (rdE X.K cl W cf pk)) (hm : behindInMarks (if n then .NotIn else .In) o = false) : L2.PT X (.Compare i [if n then .NotIn else .In] [o] pos) (rdT X.K cl W cf (.din n pk pa)) := by
  refine PTimp (pt_cmpR (o_din hu n) hk ho hm) fun σ H Q h => ?_
  obtain ⟨w, e, st, rfl, he, hs, h⟩ := h
  simp only [evT] at h
  refine ⟨w, e, st, rfl, he, hs, h.bind.mono fun u2 H1 hQ => ?_⟩
  obtain ⟨w1, x2, st1, e1, hw1, hs1, r1, h1⟩ := hQ
  subst e1
  cases hkk : keyV false [x2] with
  | none => rw [hkk] at h1; exact h1.elim
  | some k =>
    rw [hkk] at h1
    simp only [Res.ofO, Res.bind_ok] at h1
    obtain ⟨_, k1, e3, rfl, hky⟩ := key_F hkk
    cases e3
    refine ⟨w1, e, st1, rfl, he.mono hw1, hs1, h1.bind.mono fun x H2 hQ => ?_⟩
    obtain ⟨w2, v1, st2, e2, hw2, hs2, r2, h2⟩ := hQ
    subst e2
    cases hq : dctAt false st2 v1 with
    | none => rw [hq] at h2; exact h2.elim
    | some kvs4 =>
      rw [hq] at h2
      obtain ⟨l', a', rfl, rfl, _, _, ok4⟩ := dct_at hs2 r2 hq
      rw [ky_rep r1 hky]
      obtain ⟨o, hg, hr⟩ := dct_getF (k := k1) ok4
      refine ⟨a', o, rfl, hg, _, rfl, ?_⟩
      rcases hr with ⟨z1, rfl⟩ | ⟨x, u, z1, rfl, rx⟩
      · simp only [Option.map, z1] at h2
        exact h2 w2 _ (.refl w2) hs2 rfl
      · simp only [Option.map, z1] at h2
        exact h2 w2 _ (.refl w2) hs2 rfl
/-! written entries -/
noncomputable def upV : List V → Option (List (V × V))
  | [] => some []
  | x :: y :: r => (upV r).map ((x, y) :: ·)
  | _ => none
noncomputable def trsOf (K : PySem.W.Frag) (cl : Nat → Value) (W : WX) (cf : CF) : PXs → List (TE × TE)
  | .cons a (.cons b r) => (rdE K cl W cf a, rdE K cl W cf b) :: trsOf K cl W cf r
  | _ => []
noncomputable def PXs.even : PXs → Bool
  | .nil => true
  | .cons _ .nil => false
  | .cons _ (.cons _ r) => r.even
theorem tp_of : ∀ {es : PXs} {σ : St} {w : Wd} {e : Env} {st : Sto} {Q : List (V × V) → Hp → Prop}, es.even = true → EnvOk X.K w e σ → StOk X.K w st → RdR X.K cl (WE W σ) (Reps X.K) w (evs cf es e st) (fun us H => ∀ ps, upV us = some ps → Q ps H) → tPairs (trsOf X.K cl W cf es) σ w.H Q
  | .nil, σ, w, e, st, Q, _, he, hs, h => by
    simp only [evs] at h
    exact h w [] (.refl w) hs .nil [] rfl
  | .cons a .nil, _, _, _, _, _, hv, _, _, _ => by simp [PXs.even] at hv
  | .cons a (.cons b r), σ, w, e, st, Q, hv, he, hs, h => by
    simp only [evs, Res.bind_bind, Res.bind_ok] at h
    refine ⟨w, e, st, rfl, he, hs, h.bind.mono fun u1 H1 hQ => ?_⟩
    obtain ⟨w1, x, st1, e1, hw1, hs1, r1, h1⟩ := hQ
    subst e1
    refine ⟨w1, e, st1, rfl, he.mono hw1, hs1, h1.bind.mono fun u2 H2 hQ => ?_⟩
    obtain ⟨w2, y, st2, e2, hw2, hs2, r2, h2⟩ := hQ
    subst e2
    refine tp_of (es := r) (by simpa [PXs.even] using hv) ((he.mono hw1).mono hw2) hs2 (h2.bind.mono fun us H3 hQ => ?_)
    obtain ⟨w3, zs, st3, e3, hw3, hs3, r3, h3⟩ := hQ
    subst e3
    intro ps hps
    exact h3 w3 (u1 :: u2 :: us) (.refl w3) hs3 (.cons ((r1.mono hw2).mono hw3) (.cons (r2.mono hw3) r3)) ((u1, u2) :: ps) (by simp only [upV, hps, Option.map_some])
theorem up_rep {K : PySem.W.Frag} {w : Wd} : ∀ {n : Nat} {vs : List PV} {us : List V} {kvs : DC}, vs.length ≤ n → upP vs = some kvs → Reps K w vs us → ∃ kk : List (L2.Key × V), upV us = some (kk.map fun kv => (kV kv.1, kv.2)) ∧ RepD K w kvs (lone kk) ∧ kk.length = kvs.length
  | _, _, _, _, _, h, .nil => by
    simp only [upP, Option.some.injEq] at h
    subst h
    exact ⟨[], rfl, .nil, rfl⟩
  | _, _, _, _, _, h, .cons _ .nil => by simp [upP] at h
  | 0, _, _, _, hn, _, .cons _ (.cons _ _) => by simp at hn
  | n + 1, x :: y :: ys, u :: u2 :: us2, kvs, hn, h, .cons rx (.cons ry r) => by
    simp only [upP, Option.bind_eq_some_iff, Option.map_eq_some_iff] at h
    obtain ⟨ky, h1, kvs2, h2, rfl⟩ := h
    obtain ⟨kk, q1, q2, q3⟩ := up_rep (n := n) (by simp at hn; omega) h2 r
    refine ⟨(toK ky, u2) :: kk, ?_, .cons ry q2, by simp [q3]⟩
    simp only [upV, q1, Option.map_some, List.map_cons]
    rw [ky_rep rx h1]
theorem fold_rep {K : PySem.W.Frag} {w : Wd} : ∀ {kvs : DC} {kk : List (L2.Key × V)} {acc : DC} {ak : List (L2.Key × V)}, RepD K w kvs (lone kk) → RepD K w acc (lone ak) → RepD K w (kvs.foldl (fun a p => dput a p.1 p.2) acc) (lone (mergeK ak kk))
  | [], [], _, _, _, h => h
  | [], _ :: _, _, _, h, _ => by cases h
  | _ :: _, [], _, _, h, _ => by cases h
  | (k, x) :: kvs, (j, u) :: kk, acc, ak, h, ha => by
    unfold lone at h
    rw [List.map_cons] at h
    generalize hj : ([j] : List L2.Key) = jj at h
    cases h with
    | cons rx r =>
      have hp := RepD.put k rx ha
      rw [← hj, lone_put] at hp
      exact fold_rep (acc := dput acc k x) (ak := putK ak j u) r hp
theorem x_ndl {keys : List (Option Expr)} {values : List Expr} {es : PXs} (hev : es.even = true) (h : PPs X pos keys values (trsOf X.K cl W cf es)) (hall : keys.all (·.isSome) = true) (hl : keys.length = values.length) (h0 : keys ≠ []) (h15 : keys.length ≤ 15) :
    L2.PE X (.Dict keys values pos) (rdE X.K cl W cf (.ndl es)) := by
  refine PEimp (pe_disp h hall hl h0 h15) fun σ H Q h => ?_
  obtain ⟨w, e, st, rfl, he, hs, h⟩ := h
  simp only [ev] at h
  intro p hp
  have hw0 := Wd.locO_le (w := w) (o := .dK []) hp
  have hs0 : StOk X.K (w.locO p (.dK [])) (st ++ [.dct false []]) := hs.locO hp ⟨[], upd_same, .nil⟩
  refine tp_of (w := w.locO p (.dK [])) hev (he.mono hw0) hs0 ((RdR.up h hw0).bind.mono fun us H1 hQ => ?_)
  obtain ⟨w1, vs, st1, e1, hw1, hs1, r1, h1⟩ := hQ
  subst e1
  intro ps hps
  cases hu : upP vs with
  | none => rw [hu] at h1; exact h1.elim
  | some kvs =>
    rw [hu] at h1
    simp only [ndlE] at h1
    split at h1
    · rename_i hc
      split at h1
      · rename_i h15'
        have em0 : (w.locO p (.dK [])).m[st.length]? = some (some p) := by
          show (w.m ++ [some p])[st.length]? = _
          rw [← hs.len]; simp
        have em : w1.m[st.length]? = some (some p) := by
          rcases hw1.loc _ _ em0 with z | z
          · exact z
          · have := hs1.gone _ z
            rw [hc] at this
            cases this
        obtain ⟨c, hc2, ok⟩ := hs1.cell _ _ em
        rw [hc] at hc2
        cases hc2
        obtain ⟨us0, hH, r0⟩ := ok
        have : us0 = [] := by
          cases us0 with
          | nil => rfl
          | cons a b => cases r0
        subst this
        obtain ⟨kk, q1, q2, q3⟩ := up_rep (Nat.le_refl _) hu r1
        rw [q1] at hps
        cases hps
        have hw5 := Wd.ow_le (w := w1) (o := .dK (mergeK [] kk)) (m_mem em) (fun _ _ z => by rw [hH] at z; cases z)
        refine ⟨hH, kk, rfl, by rw [q3]; exact h15', ?_⟩
        exact h1 (w1.ow p (.dK (mergeK [] kk))) _ hw5 (hs1.ow em ⟨_, upd_same, fold_rep (q2.mono hw5) .nil⟩) (.ref em)
      · exact h1.elim
    · exact h1.elim
/-! a call of one of two defs -/
theorem arm_sub (o i : Expr) (p : Pos) (args : List Expr) (kws : List Keyword) (pos : Pos) (env : PySem.Env) : eval (.Call (.Subscript o i p) args kws pos) env = (do
    callWith pos (← eval (.Subscript o i p) env) [] (backTo pos (starEach args env)) (backToKw pos (keywordEach kws env))) := rfl
theorem x_csel {k : Nat} {fa ga : Addr} {fd gd : FuncData} {ps ps2 : List Str} {i j : Nat} {x y : Str} {a ix : Expr} {es : List Expr} {pi : PX} {qs : PXs} {p1 p2 p3 p4 : Pos} (F : FnOk X.prog X.w X.K X.mg X.base (L2.CX X.prog X.w) k fa fd ps (spF X.K cl cf ps.length i)) (G : FnOk X.prog X.w X.K X.mg X.base (L2.CX X.prog X.w) k ga gd ps2 (spF X.K cl cf ps2.length j)) (hr : Room k X.A)
    (hg : Gl X x) (hg2 : Gl X y) (hm : X.mg x = some (.ref fa)) (hm2 : X.mg y = some (.ref ga)) (hk : PySem.W.keepIn X.K (.ref fa) = true) (hk2 : PySem.W.keepIn X.K (.ref ga) = true) (hb : Binds X.K fd ps []) (hb2 : Binds X.K gd ps2 []) (tk : Takes X W) (hl : qs.len = ps.length) (hl2 : qs.len = ps2.length)
    (hi : L2.PE X ix (rdE X.K cl W cf pi)) (hx : PlainIx ix) (ha : L2.PA X (a :: es) (rdA X.K cl W cf qs)) (hdb : (x == ("__debug__" : Str)) = false) (hdb2 : (y == ("__debug__" : Str)) = false) (he : starEach (a :: es) X.env = (false, eval a X.env) :: starEach es X.env) (hpl : (backTo pos (starEach es X.env)).any (·.1) = false) :
    L2.PE X (.Call (.Subscript (.List [.Name x p1, .Name y p2] p3) ix p4) (a :: es) [] pos) (rdE X.K cl W cf (.csel i j pi qs)) := by
  refine ⟨fun pins s σ H Q I h => ?_⟩
  obtain ⟨w, e, st, rfl, he', hs, h⟩ := h
  simp only [ev] at h
  have hL : L2.PE X (.List [.Name x p1, .Name y p2] p3) (tLst (tCons (tC (.ref fa)) (tCons (tC (.ref ga)) tNil))) := pe_lst (pa_cons (pe_glob (v := .ref fa) hg hm rfl hdb) (pa_cons (pe_glob (v := .ref ga) hg2 hm2 rfl hdb2) pa_nil))
  have hS := pe_ix (pos := p4) ix_list hL hi hx
  rw [arm_sub]
  refine wpAny_bind (thn (hS.run pins s σ w.H (fun v H1 => ∃ (b : Bool) (w1 : Wd) (st1 : Sto), w1.H = H1 ∧ EnvOk X.K w1 e σ ∧ StOk X.K w1 st1 ∧ v = .ref (if b then ga else fa) ∧ RdR X.K cl (WE W σ) (Rep X.K) w1 ((evs cf qs e st1).bind fun vs st3 => cf (if b then j else i) vs st3) Q) I ?_) fun u s1 ⟨v, H1, I1, r1, q1⟩ => ?_)
  · refine ⟨by show 2 ≤ sizeLine; decide, fun p hp => ?_⟩
    have hw0 := Wd.put_le (w := w) (o := .lst [.ref fa, .ref ga]) hp
    have hs0 := hs.put (o := .lst [.ref fa, .ref ga]) hp
    have hn0 : some p ∉ (w.put p (.lst [.ref fa, .ref ga])).m := hs.new hp
    refine ⟨w.put p (.lst [.ref fa, .ref ga]), e, st, rfl, he'.mono hw0, hs0, (RdR.up h hw0).bind.mono fun kv H1 hQ => ?_⟩
    obtain ⟨w1, v1, st1, e1, hw1, hs1, r1, h1⟩ := hQ
    subst e1
    have hkeep := hw1.keep p (.lst [.ref fa, .ref ga]) upd_same hn0
    cases hq : selB i j v1 with
    | none => rw [hq] at h1; exact h1.elim
    | some n =>
      rw [hq] at h1
      simp only [Res.ofO, Res.bind_ok] at h1
      have he1 := (he'.mono hw0).mono hw1
      unfold selB at hq
      split at hq <;> first | cases hq | skip
      · cases r1.int_inv
        exact ⟨p, [.ref fa, .ref ga], 0, .ref fa, rfl, rfl, SqL.of hkeep, rfl, false, w1, st1, rfl, he1, hs1, rfl, h1⟩
      · cases r1.int_inv
        exact ⟨p, [.ref fa, .ref ga], 1, .ref ga, rfl, rfl, SqL.of hkeep, rfl, true, w1, st1, rfl, he1, hs1, rfl, h1⟩
  · obtain ⟨b, w1, st1, rfl, he1, hs1, rfl, h1⟩ := q1
    cases r1
    have hargs : rdA X.K cl W cf qs σ w1.H (fun vs H2 => vs.length = qs.len ∧ ∃ (w2 : Wd) (st2 : Sto) (args : List PV), w2.H = H2 ∧ StOk X.K w2 st2 ∧ Reps X.K w2 args vs ∧ RdR X.K cl (WE W σ) (Rep X.K) w2 (cf (if b then j else i) args st2) Q) :=
      ⟨w1, e, st1, rfl, he1, hs1, h1.bindE.mono fun xs H2 ⟨w2, v2, st2, e0, e2, hw2, hs2, r2, h2⟩ => by
        subst e2
        exact ⟨by rw [← r2.length, evs_len e0], w2, st2, v2, rfl, hs2, r2, h2⟩⟩
    cases b with
    | false =>
      refine PySem.W.callWith_K (h₀ := X.base) I1.ok.mod.kin hk (thn (ha.run pos pins s1 σ _ _ I1 hargs) fun us s2 ⟨vs, H2, I2, r, q⟩ => ⟨I2.kIn, ?_⟩) he hpl
      exact run_fnSD (E := WE W) (dvs := []) (ds := []) F hr hb .nil (passAt tk σ) I2 r (by rw [List.append_nil]; exact ⟨by rw [← hl]; exact q.1, q.2⟩)
    | true =>
      refine PySem.W.callWith_K (h₀ := X.base) I1.ok.mod.kin hk2 (thn (ha.run pos pins s1 σ _ _ I1 hargs) fun us s2 ⟨vs, H2, I2, r, q⟩ => ⟨I2.kIn, ?_⟩) he hpl
      exact run_fnSD (E := WE W) (dvs := []) (ds := []) G hr hb2 .nil (passAt tk σ) I2 r (by rw [List.append_nil]; exact ⟨by rw [← hl2]; exact q.1, q.2⟩)
end
end PL

/-! PLk: dicts whose keys are tuples of numbers as values; the walk of a locked dict. -/
namespace PL
open PySem L2
section
variable {K : PySem.W.Frag} {w : Wd}
theorem kysI_rep : ∀ {vs : List PV} {us : List V} {k : List KP}, Reps K w vs us → kysI vs = some k → us = (k.map toK).map kV ∧ ∀ z, V.str z ∉ us
  | _, _, k, .nil, h => by
    cases h
    exact ⟨rfl, fun z => List.not_mem_nil⟩
  | x :: r, _, k, .cons ru rs, h => by
    cases x with
    | int i =>
      obtain ⟨k2, h2, rfl⟩ := Option.map_eq_some_iff.mp (show (kysI r).map (.inl i :: ·) = some k from h)
      cases ru.int_inv
      obtain ⟨e, n⟩ := kysI_rep rs h2
      refine ⟨by rw [e]; rfl, fun z q => ?_⟩
      rcases List.mem_cons.mp q with q | q
      · cases q
      · exact n z q
    | _ => cases h
theorem key_I {x : PV} {u : V} {k : List KP} (r : Rep K w x u) (h : tupK x = some k) : ∃ b, u = .ref b ∧ w.H b = some (.tup ((k.map toK).map kV)) := by
  cases r with
  | tup hq r =>
    obtain ⟨e, n⟩ := kysI_rep r h
    rcases hq with ⟨hq, _⟩ | ⟨⟨z, hz⟩, _⟩
    · exact ⟨_, rfl, by rw [← e]; exact hq⟩
    · exact absurd hz (n z)
  | _ => cases h
theorem dct_atW {st : Sto} {x : PV} {u : V} {kvs : DC} (ok : StOk K w st) (r : Rep K w x u) (h : dctW st x = some kvs) :
    ∃ (l : Nat) (a : Addr) (us : List (List L2.Key × V)), x = .ref l ∧ u = .ref a ∧ w.m[l]? = some (some a) ∧ Rd w.H a (.dT us) ∧ RepD K w kvs us := by
  unfold dctW at h
  split at h
  · rename_i l
    split at h
    · rename_i kvs' hc
      cases h
      cases r with
      | ref e =>
        obtain ⟨c, hc2, o⟩ := ok.cell _ _ e
        rw [hc] at hc2
        cases hc2
        obtain ⟨us, h1, rd⟩ := o
        exact ⟨l, _, us, rfl, rfl, e, .inl h1, rd⟩
      | gone e =>
        have := ok.gone _ e
        rw [hc] at this
        cases this
    · rename_i kvs' hc
      cases h
      cases r with
      | ref e =>
        obtain ⟨c, hc2, o⟩ := ok.cell _ _ e
        rw [hc] at hc2
        cases hc2
        obtain ⟨od, us, h1, rd⟩ := o
        exact ⟨l, _, us, rfl, rfl, e, .inr ⟨od, h1⟩, rd⟩
      | gone e =>
        have := ok.gone _ e
        rw [hc] at this
        cases this
    · cases h
  · cases h
theorem fdc_at {st : Sto} {x : PV} {u : V} {kvs : DC} (ok : StOk K w st) (r : Rep K w x u) (h : fdcAt st x = some kvs) :
    ∃ (l : Nat) (a : Addr) (od : Obj) (us : List (List L2.Key × V)), x = .ref l ∧ u = .ref a ∧ w.m[l]? = some (some a) ∧ w.H a = some (.frz od (.dT us)) ∧ RepD K w kvs us := by
  unfold fdcAt at h
  split at h
  · rename_i l
    split at h
    · rename_i kvs' hc
      cases h
      cases r with
      | ref e =>
        obtain ⟨c, hc2, o⟩ := ok.cell _ _ e
        rw [hc] at hc2
        cases hc2
        obtain ⟨od, us, h1, rd⟩ := o
        exact ⟨l, _, od, us, rfl, rfl, e, h1, rd⟩
      | gone e =>
        have := ok.gone _ e
        rw [hc] at this
        cases this
    · cases h
  · cases h
theorem StOk.no_tup {st : Sto} (ok : StOk K w st) {q : Addr} {us : List V} (h : w.H q = some (.tup us)) : some q ∉ w.m := fun z => by
  obtain ⟨l, e⟩ := mem_m z
  obtain ⟨c, _, o⟩ := ok.cell _ _ e
  cases c with
  | dead => exact o.elim
  | lst xs => obtain ⟨_, h1, _⟩ := o; rw [h] at h1; cases h1
  | obj C fs => obtain ⟨_, _, _, _, h1, _⟩ := o; rw [h] at h1; cases h1
  | dct t kvs =>
    cases t with
    | true => obtain ⟨_, h1, _⟩ := o; rw [h] at h1; cases h1
    | false => obtain ⟨_, h1, _⟩ := o; rw [h] at h1; cases h1
  | fdc kvs => obtain ⟨_, _, h1, _⟩ := o; rw [h] at h1; cases h1
theorem unK_rep : ∀ {k : List KP} {vs : List PV}, unK k = some vs → Reps K w vs ((k.map toK).map kV)
  | [], _, h => by
    cases h
    exact .nil
  | .inl i :: r, _, h => by
    obtain ⟨v2, h2, rfl⟩ := Option.map_eq_some_iff.mp (show (unK r).map (.int i :: ·) = some _ from h)
    exact .cons (.int i) (unK_rep h2)
  | .inr _ :: _, _, h => by cases h
theorem dkL_get : ∀ {kvs : DC} {us : List (List L2.Key × V)} {items : List PV}, RepD K w kvs us → dkL kvs = some items →
    items.length = us.length ∧ ∀ (i : Nat) (k : List L2.Key) (v : V), us[i]? = some (k, v) → ∃ vs, items[i]? = some (.tup vs) ∧ Reps K w vs (k.map kV)
  | _, _, items, .nil, h => by
    cases h
    exact ⟨rfl, fun i k v z => by simp at z⟩
  | _, _, items, @RepD.cons _ _ k x u r s _ rd, h => by
    obtain ⟨vs, h1, h2⟩ := Option.bind_eq_some_iff.mp (show (unK k).bind (fun vs => (dkL r).map (.tup vs :: ·)) = some items from h)
    obtain ⟨it, h3, rfl⟩ := Option.map_eq_some_iff.mp h2
    obtain ⟨e, g⟩ := dkL_get rd h3
    refine ⟨by simp [e], fun i k' v z => ?_⟩
    cases i with
    | zero =>
      simp only [List.getElem?_cons_zero, Option.some.injEq, Prod.mk.injEq] at z
      obtain ⟨rfl, rfl⟩ := z
      exact ⟨vs, rfl, unK_rep h1⟩
    | succ i =>
      simp only [List.getElem?_cons_succ] at z ⊢
      exact g i k' v z
theorem isIt_dk {a : Addr} {od : Obj} {kvs : DC} {us : List (List L2.Key × V)} {items : List PV} (h : w.H a = some (.frz od (.dT us))) (rd : RepD K w kvs us) (q : dkL kvs = some items) : IsIt K w items (Itkt a od us) := fun w2 st2 hw hs => by
  have h2 := hw.lck _ _ _ h
  obtain ⟨e, g⟩ := dkL_get (rd.mono hw) q
  refine ⟨fun i hi => ⟨⟨h2, by omega⟩, fun x H' hy => ?_⟩, ⟨h2, by omega⟩⟩
  obtain ⟨rfl, k, v, q, hu, rfl, hq⟩ := hy
  obtain ⟨vs, h3, h4⟩ := g i k v hu
  exact ⟨w2, _, rfl, .refl w2, hs, h3, .tup (.inl ⟨hq, hs.no_tup hq⟩) h4⟩
end
section
variable {X : Cx} {cl : Nat → Value} {W : WX} {cf : CF} {pos : Pos} {a b c tg : Expr} {pa pb pc : PX}
theorem x_dav {i : Expr} {pk : PX} {o : Expr} (hu : X.A.units + 1 < cLine) (ho : L2.PE X o (rdE X.K cl W cf pa)) (hk : L2.PE X i (rdE X.K cl W cf pk)) (hn : NoSl i) : L2.PE X (.Subscript o i pos) (rdE X.K cl W cf (.dav pa pk)) := by
  refine PEimp (pe_dget hu ho hk hn) fun σ H Q h => ?_
  obtain ⟨w, e, st, rfl, he, hs, h⟩ := h
  simp only [ev] at h
  refine ⟨w, e, st, rfl, he, hs, h.bind.mono fun x H1 hQ => ?_⟩
  obtain ⟨w1, v1, st1, e1, hw1, hs1, r1, h1⟩ := hQ
  subst e1
  refine ⟨w1, e, st1, rfl, he.mono hw1, hs1, h1.bind.mono fun u2 H2 hQ => ?_⟩
  obtain ⟨w2, x2, st2, e2, hw2, hs2, r2, h2⟩ := hQ
  subst e2
  cases hkk : tupK x2 with
  | none => rw [hkk] at h2; exact h2.elim
  | some k =>
    rw [hkk] at h2
    simp only [Res.ofO, Res.bind_ok] at h2
    obtain ⟨b, rfl, hb⟩ := key_I r2 hkk
    cases hq : dctW st2 v1 with
    | none => rw [hq] at h2; exact h2.elim
    | some kvs =>
      rw [hq] at h2
      obtain ⟨l, a, us, rfl, rfl, em, hH, rd⟩ := dct_atW hs2 (r1.mono hw2) hq
      rcases rd.look k with ⟨z1, z2⟩ | ⟨x, u, z1, z2, rx⟩
      · simp only [Option.bind, z1] at h2
        exact h2.elim
      · simp only [Option.bind, z1] at h2
        exact ⟨a, u, rfl, .inr ⟨us, k.map toK, b, hH, rfl, hb, z2.symm⟩, h2 w2 _ (.refl w2) hs2 rx⟩
theorem x_tdnv {i : Expr} {pk : PX} {o : Expr} {n : Bool} (hu : X.A.units + 1 < cLine) (ho : L2.PE X o (rdE X.K cl W cf pa)) (hk : L2.PE X i (rdE X.K cl W cf pk)) (hm : behindInMarks (if n then .NotIn else .In) o = false) : L2.PT X (.Compare i [if n then .NotIn else .In] [o] pos) (rdT X.K cl W cf (.dnv n pk pa)) := by
  refine PTimp (pt_cmpR (o_din hu n) hk ho hm) fun σ H Q h => ?_
  obtain ⟨w, e, st, rfl, he, hs, h⟩ := h
  simp only [evT] at h
  refine ⟨w, e, st, rfl, he, hs, h.bind.mono fun u2 H1 hQ => ?_⟩
  obtain ⟨w1, x2, st1, e1, hw1, hs1, r1, h1⟩ := hQ
  subst e1
  cases hkk : tupK x2 with
  | none => rw [hkk] at h1; exact h1.elim
  | some k =>
    rw [hkk] at h1
    simp only [Res.ofO, Res.bind_ok] at h1
    obtain ⟨b, rfl, hb⟩ := key_I r1 hkk
    refine ⟨w1, e, st1, rfl, he.mono hw1, hs1, h1.bind.mono fun x H2 hQ => ?_⟩
    obtain ⟨w2, v1, st2, e2, hw2, hs2, r2, h2⟩ := hQ
    subst e2
    cases hq : dctW st2 v1 with
    | none => rw [hq] at h2; exact h2.elim
    | some kvs =>
      rw [hq] at h2
      obtain ⟨l, a, us, rfl, rfl, em, hH, rd⟩ := dct_atW hs2 r2 hq
      have hb2 : w2.H b = some (.tup ((k.map toK).map kV)) := hw2.keep _ _ hb (hs1.no_tup hb)
      refine ⟨a, valV us (k.map toK), rfl, .inr ⟨us, k.map toK, b, hH, rfl, hb2, rfl⟩, _, rfl, ?_⟩
      rcases rd.look k with ⟨z1, z2⟩ | ⟨x, u, z1, z2, rx⟩
      · rw [z2]
        simp only [Option.map, z1] at h2
        exact h2 w2 _ (.refl w2) hs2 rfl
      · rw [z2]
        simp only [Option.map, z1] at h2
        exact h2 w2 _ (.refl w2) hs2 rfl
theorem x_dk (ha : L2.PE X a (rdE X.K cl W cf pa)) : PI X tg a (rdI X.K cl W cf (.dk pa)) := by
  refine PIimp (pi_keys ha) fun σ H R h => ?_
  obtain ⟨w, e, st, rfl, he, hs, h⟩ := h
  simp only [evI] at h
  refine ⟨w, e, st, rfl, he, hs, h.bind.mono fun x H1 hQ => ?_⟩
  obtain ⟨w1, v1, st1, e1, hw1, hs1, r1, h1⟩ := hQ
  subst e1
  obtain ⟨items, q, h3⟩ := h1.ofO
  obtain ⟨kvs, q1, q2⟩ := Option.bind_eq_some_iff.mp q
  obtain ⟨l, a, od, us, rfl, rfl, em, hH, rd⟩ := fdc_at hs1 r1 q1
  exact ⟨a, od, rfl, .inr ⟨us, hH, h3 w1 _ (.refl w1) hs1 (isIt_dk hH rd q2)⟩⟩
end
end PL

/-! PLm: dict(..) of a list of pairs whose keys are tuples of numbers. -/
namespace L2
open PySem PySem.Spec PySem.Calls PyProof.Rows
section
variable {X : Cx}
theorem pairs_ofT {pins : List (Addr × Obj)} {σ : St} {H : Hp} {s : Shared} (I : Inv X pins σ H s) : ∀ {ps : List Addr} {kvs : List (List Key × V)}, Paired (fun p kv => ∃ b, SqT X.K H p [.ref b, kv.2] ∧ H b = some (.tup (kv.1.map kV))) ps kvs →
    ∃ xs : List (List Key × Addr × Value), KT H kvs xs ∧ xs.length = ps.length ∧ ∀ (j : Nat) (x : List Key × Addr × Value), xs[j]? = some x → ∃ p : Addr, ps[j]? = some p ∧ IsTup s.heap p #[.ref x.2.1, x.2.2]
  | _, _, .nil => ⟨[], .nil, rfl, fun j q e => by simp at e⟩
  | _, _, .cons (a := p) (b := kv) h t => by
    obtain ⟨b, h, hb⟩ := h
    obtain ⟨xs, r, hl, hp⟩ := pairs_ofT I t
    obtain ⟨its, rv, ht, _⟩ := I.tuple h
    obtain ⟨u, y, ei, ru, ry⟩ := vals2 rv
    subst ei
    cases ru
    refine ⟨(kv.1, b, y) :: xs, .cons ⟨rfl, hb, ry⟩ r, by rw [List.length_cons, List.length_cons, hl], fun j q e => ?_⟩
    cases j with
    | zero =>
      have e' : (kv.1, b, y) = q := Option.some.inj e
      subst e'
      exact ⟨p, rfl, ht⟩
    | succ j =>
      obtain ⟨b', e1, e2⟩ := hp j q (by simpa using e)
      exact ⟨b', by simpa using e1, e2⟩
theorem KT.keys {H : Hp} {kvs : List (List Key × V)} {xs : List (List Key × Addr × Value)} (h : KT H kvs xs) : xs.map (·.1) = kvs.map (·.1) := by
  induction h with
  | nil => rfl
  | cons h t ih => rw [List.map_cons, List.map_cons, ih, h.1]
/-- dict(xs) of a list of pairs (tuple, value), no key twice -/
theorem call_dictPT (hcalm : X.calm = true) (hu : X.A.units + 64 < cLine) : CallR X (.type "dict") (fun xs H Q => ∃ (a : Addr) (ps : List Addr) (kvs : List (List Key × V)), xs = [.ref a] ∧ SqL X.K H a (ps.map V.ref) ∧ Paired (fun p kv => ∃ b, SqT X.K H p [.ref b, kv.2] ∧ H b = some (.tup (kv.1.map kV))) ps kvs ∧
    (kvs.map (·.1)).Nodup ∧ ∀ p, H p = none → Q (.ref p) (upd H p (.dT kvs))) := by
  intro pins s σ H xs us Q I r q
  obtain ⟨a, ps, kvs, ex, hq, hp, hnd, q⟩ := q
  subst ex
  obtain ⟨u, eu, rx⟩ := vals1 r
  subst eu
  cases rx
  obtain ⟨its, rv, pl, hz⟩ := I.list hq
  have ei := refs_at rv
  subst ei
  rw [List.length_map] at hz
  obtain ⟨xs, rel, hl, hpr⟩ := pairs_ofT I hp
  obtain ⟨o, n, ho, hc, hd, hdat⟩ := pl
  have hnx : (xs.map (·.1)).Nodup := by rw [rel.keys]; exact hnd
  have hlen : (xs.map fun x => ((Value.ref x.2.1 : Value), x.2.2)).length = ps.length := by rw [List.length_map, hl]
  have hn0 : H s.heap.objs.size = none := I.hok.fresh (Nat.le_refl _)
  have hkey : ∀ x ∈ xs, H x.2.1 = some (.tup (x.1.map kV)) := fun x hx => by
    have : ∀ {l : List (List Key × V)} {m : List (List Key × Addr × Value)}, KT H l m → ∀ x ∈ m, H x.2.1 = some (.tup (x.1.map kV)) := by
      intro l m q
      induction q with
      | nil => intro x hx; exact nomatch hx
      | @cons p q ps qs hq t ih =>
        intro x hx
        rcases List.mem_cons.mp hx with e | hx
        · subst e; rw [← hq.1]; exact hq.2.1
        · exact ih x hx
    exact this rel x hx
  refine PySem.call_dict_pairsH (knd := tupleKind (mixKind X.prog X.w)) (ps := xs) (PySem.PairArg.list a (ps.map Value.ref).toArray (fun j => ps.getD j 0) (xs.map fun x => ((Value.ref x.2.1 : Value), x.2.2))) (I.ok.hd hcalm) (by show X.A.units + 1 + 1 < cLine; omega)
    ⟨⟨o, n, ho, hc, hd, hdat⟩, by rw [hlen]; simp, fun j k v e => ?_⟩ ⟨by rw [List.length_map], fun i key v e => ?_⟩ (fun h' hk x hx => ?_) (by rw [hlen]; exact hz) fun h' tk hd' hk => ?_
  · rw [List.getElem?_map, Option.map_eq_some_iff] at e
    obtain ⟨x, hx, e⟩ := e
    cases e
    obtain ⟨p, e1, e2⟩ := hpr j x hx
    refine ⟨by simp [e1], .inl ?_⟩
    have ed : ps.getD j 0 = p := by rw [List.getD_eq_getElem?_getD, e1]; rfl
    show s.heap.IsTuple (ps.getD j 0) _
    rw [ed]
    exact e2
  · have e' : (xs.map fun x => ((Value.ref x.2.1 : Value), x.2.2))[i]? = some (key, v) := e
    rw [List.getElem?_map, Option.map_eq_some_iff] at e'
    obtain ⟨x, hx, e'⟩ := e'
    cases e'
    exact ⟨x.1, x.2.1, hx, rfl⟩
  · have h1 := key_of (P := X.prog) (w := X.w) I.hok (hkey x hx)
    exact PySem.tupleKind_stays.stays (fun b u _ _ e _ => hk b u (Nat.ne_of_lt (Heap.lt_size e)) (fun z => nomatch z) e) h1
  · rw [PySem.storedAllH_nil_of_nodup xs hnx] at hd'
    obtain ⟨o', es, ep, g1, g2, g3, g4, _, g6⟩ := hd'
    have hm : (s.heap.objs.size == sysModules) = false := beq_eq_false_iff_ne.mpr (Nat.ne_of_gt I.big)
    have hlk : kvs.length ≤ sizeLine := by
      have := congrArg List.length rel.keys
      rw [List.length_map, List.length_map] at this
      omega
    have rel' : KT (upd H s.heap.objs.size (.dT kvs)) kvs xs := Paired.mapP rel fun p q ⟨e1, e2, e3⟩ => ⟨e1, by
      rw [upd_ne (ne_of_none e2 hn0)]; exact e2, e3⟩
    exact ⟨.ref s.heap.objs.size, upd H s.heap.objs.size (.dT kvs), I.laid (t' := tk) (fun b u e => hk b u (fun z => nomatch z) e) (Nat.le_refl _) (show ObjOk X.prog X.w _ _ _ (.dT kvs) from ⟨hlk, hm, xs, rel', o', es, ep, g1, g2, g3, g4, g6⟩), rfl, q _ hn0⟩
end
end L2
namespace PL
open PySem L2
section
variable {K : PySem.W.Frag} {w : Wd}
theorem prs_rep : ∀ {ps : List PV} {us : List V} {kvs : DC}, prsL ps = some kvs → Reps K w ps us →
    ∃ (as : List Addr) (ks : List (List L2.Key × V)), us = as.map V.ref ∧ RepD K w kvs ks ∧ Paired (fun p kv => ∃ b, SqT K w.H p [.ref b, kv.2] ∧ w.H b = some (.tup (kv.1.map kV))) as ks
  | [], _, kvs, h, .nil => by
    cases h
    exact ⟨[], [], rfl, .nil, .nil⟩
  | x :: r, _, kvs, h, .cons ru rs => by
    unfold prsL at h
    split at h
    · cases ‹_ :: _ = []›
    · rename_i k v r' e
      cases e
      obtain ⟨ky, h1, h2⟩ := Option.bind_eq_some_iff.mp h
      obtain ⟨kv2, h3, rfl⟩ := Option.map_eq_some_iff.mp h2
      obtain ⟨as, ks, e1, e2, e3⟩ := prs_rep h3 rs
      obtain ⟨a1, us1, rfl, hq, rr⟩ := ru.tup_inv
      cases rr with
      | cons rk rv =>
        cases rv with
        | cons rv rn =>
          cases rn
          obtain ⟨b, rfl, hb⟩ := key_I rk h1
          exact ⟨a1 :: as, (ky.map toK, _) :: ks, by rw [e1]; rfl, .cons rv e2, .cons ⟨b, hq.sq, hb⟩ e3⟩
    · cases h
theorem RepD.keys : ∀ {kvs : DC} {ks : List (List L2.Key × V)}, RepD K w kvs ks → ks.map (·.1) = kvs.map fun kv => kv.1.map toK
  | _, _, .nil => rfl
  | _, _, .cons _ t => by simp only [List.map_cons, t.keys]
theorem nodup_toK {kvs : DC} (h : (kvs.map (·.1)).Nodup) : (kvs.map fun kv => kv.1.map toK).Nodup := by
  have e : (kvs.map fun kv => kv.1.map toK) = (kvs.map (·.1)).map fun k => k.map toK := by rw [List.map_map]; rfl
  rw [e]
  exact List.Pairwise.map _ (fun a b hab z => hab (toKs_inj z)) h
end
section
variable {X : Cx} {cl : Nat → Value} {W : WX} {cf : CF} {pos p : Pos} {a : Expr} {pa : PX}
theorem c_ndc (hc : X.calm = true) (hu : X.A.units + 64 < cLine) : CallR X (.type "dict") (fun xs H Q => ∃ (w : Wd) (st : Sto) (a : PV) (x : V) (kvs : DC), w.H = H ∧ StOk X.K w st ∧ xs = [x] ∧ Rep X.K w a x ∧ prsV a = some kvs ∧ (kvs.map (·.1)).Nodup ∧ Gets X.K w (.ref st.length) (st ++ [.dct true kvs]) Q) := by
  intro pins s σ H xs us Q I r h
  obtain ⟨w, st, a, x, kvs, rfl, ok, rfl, ra, e, hnd, g⟩ := h
  cases a with
  | lst ys =>
    replace e : prsL ys = some kvs := e
    obtain ⟨a1, us1, rfl, h1, _, r1⟩ := ra.lst_inv
    obtain ⟨as, ks, rfl, rd, hp⟩ := prs_rep e r1
    exact call_dictPT hc hu pins s σ w.H _ us Q I r ⟨a1, as, ks, rfl, SqL.of h1, hp, by rw [rd.keys]; exact nodup_toK hnd, fun p hp => Gets.locO g ok hp ⟨ks, upd_same, rd.mono (Wd.locO_le hp)⟩⟩
  | _ => cases e
theorem x_ndc (hc : X.calm = true) (hu : X.A.units + 64 < cLine) (hg : Gl X "dict") (hm : X.mg "dict" = none) (ha : L2.PE X a (rdE X.K cl W cf pa)) (he : starEach [a] X.env = (false, eval a X.env) :: starEach [] X.env) :
    L2.PE X (.Call (.Name "dict" p) [a] [] pos) (rdE X.K cl W cf (.ndc pa)) := by
  refine PEimp (pe_callTy (c_ndc hc hu) hg hm PyProof.Rows.boot_dict (x_cons ha x_nil he) (by decide) (by decide) he rfl) fun σ H Q h => ?_
  obtain ⟨w, e, st, rfl, he, hs, h⟩ := h
  simp only [ev] at h
  refine ⟨w, e, st, rfl, he, hs, ?_⟩
  simp only [evs]
  cases q : ev cf pa e st with
  | ok v st1 =>
    rw [q] at h
    simp only [Res.bind_ok] at h ⊢
    intro w1 us hw1 hs1 r1
    obtain ⟨u, rfl, ru⟩ := r1.one
    cases q2 : prsV v with
    | none => rw [q2] at h; exact h.elim
    | some kvs =>
      rw [q2] at h
      simp only [Res.ofO, Res.bind_ok] at h
      split at h
      · rename_i hq
        simp only [Bool.and_eq_true, decide_eq_true_eq] at hq
        exact ⟨w1, st1, _, u, kvs, rfl, hs1, rfl, ru, q2, hq.2, fun w' z a b c => h w' z (hw1.trans a) b c⟩
      · exact h.elim
  | exc c st1 => rw [q] at h; exact h
  | stuck => rw [q] at h; exact h.elim
end
end PL

/-! PL7: the checker, and that what it takes is evaluated as told. -/
namespace PL
open PySem L2

structure Tb where
  T : Tab
  cs : List (Str × PV)
  bs : List Str
  ks : List (Str × List Str)
  es : List (Str × Nat)
  wd : Option Nat

noncomputable def isVis (sc : Scope) (x : Str) : Bool := match sc.names.lookup x with
  | some .local => true
  | some .cell => true
  | some .free => true
  | _ => false
noncomputable def isLoc (sc : Scope) (x : Str) : Bool := match sc.names.lookup x with
  | some .local => true
  | some .cell => true
  | _ => false
noncomputable def isGl (sc : Scope) (x : Str) : Bool := match sc.names.lookup x with
  | some .globalImplicit => true
  | _ => false
noncomputable def okName (x : Str) : Bool := !(x == ("__debug__" : Str)) && !(x == ("__classdict__" : Str)) && !(x == ("__name__" : Str))
noncomputable def notStar : Expr → Bool
  | .Starred .. => false
  | _ => true
noncomputable def plainIx : Expr → Bool
  | .Slice .. => false
  | _ => true
noncomputable def plainTest : Expr → Bool
  | .UnaryOp .. => false
  | .BoolOp .. => false
  | .IfExp .. => false
  | .Compare .. => false
  | _ => true
noncomputable def notSet : Expr → Bool
  | .Set .. => false
  | _ => true
noncomputable def notLC : Expr → Bool
  | .ListComp .. => false
  | _ => true
noncomputable def notSup : Expr → Bool
  | .Call (.Name _ _) [] [] _ => false
  | _ => true
noncomputable def notCall : Expr → Bool
  | .Call .. => false
  | _ => true
noncomputable def isiT (B : Tb) (sc : Scope) : List Ty → Expr → Bool
  | [t], .Name x _ => decide (x = t.name) && isGl sc x && decide (x ∈ B.bs)
  | [t, u], .Tuple [.Name x _, .Name y _] _ _ => decide (x = t.name) && isGl sc x && decide (x ∈ B.bs) && decide (y = u.name) && isGl sc y && decide (y ∈ B.bs)
  | _, _ => false
noncomputable def lnsIn (B : Tb) (sc : Scope) : Expr → Option Expr
  | .Call (.Name f _) [.Call (.Name g _) [x] [] _] [] _ => if (decide (f = "len") && isGl sc f && decide (f ∈ B.bs) && decide (g = "set") && isGl sc g && decide (g ∈ B.bs) && notStar x) = true then some x else none
  | _ => none
noncomputable def uppIn : Expr → Option Expr
  | .Call (.Attribute o n apos) [] [] pos => if (decide (n = "upper") && notCall o && (apos.endLine == pos.line)) = true then some o else none
  | _ => none
noncomputable def sssIn (B : Tb) (sc : Scope) : Expr → Option Expr
  | .Call (.Name f _) [.Call (.Name g _) [x] [] _] [] _ => if (decide (f = "sorted") && isGl sc f && decide (f ∈ B.bs) && decide (g = "set") && isGl sc g && decide (g ∈ B.bs) && notStar x) = true then some x else none
  | _ => none
noncomputable def trgIn (B : Tb) (sc : Scope) : Expr → Option Expr
  | .Call (.Name f _) [.Call (.Name g _) [x] [] _] [] _ => if (decide (f = "tuple") && isGl sc f && decide (f ∈ B.bs) && decide (g = "range") && isGl sc g && decide (g ∈ B.bs) && notStar x) = true then some x else none
  | _ => none
noncomputable def stiIn (B : Tb) (sc : Scope) : Expr → Option Expr
  | .Call (.Name f _) [x] [] _ => if (decide (f = "str") && isGl sc f && decide (f ∈ B.bs) && notStar x) = true then some x else none
  | _ => none
/-- what an operation on one value is written over -/
noncomputable def u1In (B : Tb) (sc : Scope) : U1 → Expr → Option Expr
  | .lns, e => lnsIn B sc e
  | .upp, e => uppIn e
  | .sss, e => sssIn B sc e
  | .trg, e => trgIn B sc e
  | .sti, e => stiIn B sc e
noncomputable def isDict : Expr → Bool
  | .Dict [] [] _ => true
  | _ => false
noncomputable def dgtT : Expr → Option (Expr × List Expr × Expr)
  | .Call (.Attribute o n apos) [.Tuple es _ _, f] [] pos => if (decide (n = "get") && notCall o && (apos.endLine == pos.line) && notStar f) = true then some (o, es, f) else none
  | _ => none
noncomputable def dgtF : Expr → Option (Expr × Expr × Expr)
  | .Call (.Attribute o n apos) [i, f] [] pos => if (decide (n = "get") && notCall o && (apos.endLine == pos.line) && notStar i && notStar f) = true then some (o, i, f) else none
  | _ => none
noncomputable def dsdIn : Expr → Option (Expr × Expr × Expr)
  | .Call (.Attribute o n apos) [i, f] [] pos => if (decide (n = "setdefault") && notCall o && (apos.endLine == pos.line) && notStar i && notStar f) = true then some (o, i, f) else none
  | _ => none
noncomputable def ndlIn : Expr → Option (List (Option Expr) × List Expr)
  | .Dict ks vs _ => if (!ks.isEmpty && decide (ks.length ≤ 15)) = true then some (ks, vs) else none
  | _ => none
noncomputable def datIn : Expr → Option (Expr × Expr)
  | .Subscript o i _ => if plainIx i = true then some (o, i) else none
  | _ => none
noncomputable def dinIn (n : Bool) : Expr → Option (Expr × Expr)
  | .Compare i [op] [o] _ => if (decide (op = if n then .NotIn else .In) && !behindInMarks op o) = true then some (i, o) else none
  | _ => none
noncomputable def orIn : Expr → Option (Expr × Expr)
  | .BoolOp .Or [x, y] _ => some (x, y)
  | _ => none
noncomputable def cstOk : PV → Const → Bool
  | .int i, .int j => decide (i = j)
  | .str s, .str z => decide (z.cps.toList = s) && decide (s.length ≤ SZ)
  | .bl a, .bool b => decide (a = b)
  | .non, .none => true
  | _, _ => false
noncomputable def glbIn (cs : List (Str × PV)) (x : Str) (v : PV) : Bool := cs.any fun p => decide (p.1 = x) && PV.beq p.2 v
noncomputable def ownP (N : List Str) (own : List Nat) : List (Str × Nat) := own.map fun i => (N.getD i "", i)

noncomputable def isYes : PT → Bool
  | .yes => true
  | _ => false

/-- a field of a class -/
noncomputable def isFld (B : Tb) (C f : Str) : Bool := B.ks.any fun p => decide (p.1 = C) && decide (f ∈ p.2)
/-- a def of a class -/
noncomputable def isMet (B : Tb) (C m : Str) (i n : Nat) : Bool := match B.T.lookup i with
  | some d => decide (d.name = m) && decide (d.cls = C) && decide (C ≠ "") && decide (n + 1 = d.ps.length)
  | none => false

mutual
noncomputable def chG (N : List Str) (sc : Scope) : Tg → Expr → Bool
  | .nm i, .Name x _ => decide (N[i]? = some x) && isLoc sc x
  | .tp ts, .Tuple es _ _ => chGs N sc ts es
  | _, _ => false
noncomputable def chGs (N : List Str) (sc : Scope) : Tgs → List Expr → Bool
  | .nil, [] => true
  | .cons t r, e :: es => notStar e && chG N sc t e && chGs N sc r es
  | _, _ => false
end

theorem andE {a b : Bool} (h : (a && b) = true) : a = true ∧ b = true := by rwa [Bool.and_eq_true] at h
noncomputable def chRvB (f : Expr → Bool) (i : PX) (ex : Expr) : Bool := match i, ex with
    | .neg (.cst (.int 1)), .Subscript x (.Slice none none (some (.UnaryOp .USub (.Constant (.int 1) _ _) _)) _) _ => f x
    | _, _ => false
noncomputable def chCsB (B : Tb) (f g l : Nat) (sc : Scope) (fi : Expr → Bool) (fa : List Expr → Bool) (ex : Expr) : Bool := match ex with
    | .Call (.Subscript (.List [.Name x _, .Name y _] _) ix _) (a0 :: xs) [] _ => isGl sc x && okName x && isGl sc y && okName y && plainIx ix && (match B.T.lookup f, B.T.lookup g with
      | some d, some d2 => decide (d.name = x) && decide (d.cls = "") && decide (l = d.ps.length) && decide (d2.name = y) && decide (d2.cls = "") && decide (l = d2.ps.length)
      | _, _ => false) && fi ix && fa (a0 :: xs)
    | _ => false
mutual
noncomputable def chE (B : Tb) (N : List Str) : PX → Scope → Expr → Bool
  | .var i, sc, ex => match ex with
    | .Name x _ => decide (N[i]? = some x) && isVis sc x && okName x
    | _ => false
  | .cst v, _, ex => match ex with
    | .Constant c _ _ => cstOk v c
    | _ => false
  | .glb x v, sc, ex => match ex with
    | .Name y _ => decide (x = y) && isGl sc x && okName x && glbIn B.cs x v
    | _ => false
  | .tup es, sc, ex => match ex with
    | .Tuple xs _ _ => chA B N es sc xs
    | _ => false
  | .lst es, sc, ex => match ex with
    | .List xs _ => chA B N es sc xs
    | _ => false
  | .bin op a b, sc, ex => match ex with
    | .BinOp x op' y _ => decide (op = op') && chE B N a sc x && chE B N b sc y
    | _ => false
  | .cmp op a b, sc, ex => match ex with
    | .Compare x [op'] [y] _ => decide (op = op') && !behindInMarks op y && chE B N a sc x && chE B N b sc y
    | _ => false
  | .cmp2 o1 o2 a b c, sc, ex => match ex with
    | .Compare x [o1', o2'] [y, z] _ => decide (o1 = o1') && decide (o2 = o2') && !lastMarks [o1, o2] [y, z] && chE B N a sc x && chE B N b sc y && chE B N c sc z
    | _ => false
  | .bop op es, sc, ex => match ex with
    | .BoolOp op' xs _ => decide (op = op') && chB B N es sc xs
    | _ => false
  | .nt a, sc, ex => match ex with
    | .UnaryOp .Not x _ => chE B N a sc x
    | _ => false
  | .neg a, sc, ex => match ex with
    | .UnaryOp .USub x _ => chE B N a sc x
    | _ => false
  | .ite c a b, sc, ex => match ex with
    | .IfExp x y z _ => chT B N c sc x && chE B N a sc y && chE B N b sc z
    | _ => false
  | .sub a i, sc, ex => match ex with
    | .Subscript x y _ => plainIx y && chE B N a sc x && chE B N i sc y
    | _ => false
  | .slc a lo hi, sc, ex => match ex with
    | .Subscript x (.Slice l h none _) _ => chE B N a sc x && chO B N lo sc l && chO B N hi sc h
    | _ => false
  | .call f es, sc, ex => match ex with
    | .Call (.Name x _) xs [] _ => isGl sc x && okName x && (match B.T.lookup f with
      | some d => decide (d.name = x) && decide (d.cls = "") && decide (es.len = d.ps.length)
      | none => false) && chA B N es sc xs
    | _ => false
  | .bi b es, sc, ex => match ex with
    | .Call (.Name x _) (y :: ys) [] _ => decide (x = b.name) && isGl sc x && decide (x ∈ B.bs) && chA B N es sc (y :: ys)
    | _ => false
  | .comp own t s c e, sc, ex => match ex with
    | .ListComp elt [⟨tg, iter, ifs, asy⟩] scope _ => decide (asy = 0) && blkC N sc scope (ownP N own) && t.slots.all (fun i => decide (i ∈ own)) && notSet iter && chI B N s sc tg iter && chG N scope t tg && (match ifs with
      | [] => isYes c
      | [x] => chT B N c scope x
      | _ => false) && chE B N e scope elt
    | _ => false
  | .nlst es, sc, ex => match ex with
    | .List xs _ => chA B N es sc xs
    | _ => false
  | .nof a, sc, ex => match ex with
    | .Call (.Name x _) [y] [] _ => decide (x = "list") && isGl sc x && decide (x ∈ B.bs) && notStar y && chE B N a sc y
    | _ => false
  | .ncat a b, sc, ex => match ex with
    | .BinOp x .Add y _ => chE B N a sc x && chE B N b sc y
    | _ => false
  | .fz a, sc, x => notLC x && chE B N a sc x
  | .mth m a es, sc, ex => match es, ex with
    | .cons b .nil, .Call (.Attribute o n apos) [y] [] pos => decide (n = m.name) && notCall o && (apos.endLine == pos.line) && notStar y && chE B N a sc o && chE B N b sc y
    | .nil, .Call (.Attribute o n apos) [] [] pos => decide (n = m.name) && notCall o && (apos.endLine == pos.line) && chE B N a sc o
    | _, _ => false
  | .mnd a b, sc, ex => match ex with
    | .Call (.Name x _) [y] [⟨some nm, z, _⟩] _ => decide (x = "min") && decide (nm = Str.ofString "default") && isGl sc x && decide (x ∈ B.bs) && notStar y && chE B N a sc y && chE B N b sc z
    | _ => false
  | .csel f g i es, sc, ex => chCsB B f g es.len sc (chE B N i sc) (chA B N es sc) ex
  | .mxd a b, sc, ex => match ex with
    | .Call (.Name x _) [y] [⟨some nm, z, _⟩] _ => decide (x = "max") && decide (nm = Str.ofString "default") && isGl sc x && decide (x ∈ B.bs) && notStar y && chE B N a sc y && chE B N b sc z
    | _ => false
  | .rv a i, sc, ex => chRvB (chE B N a sc) i ex
  | .u1 op a, sc, x => (match u1In B sc op x with
      | some y => chE B N a sc y
      | none => false)
  | .sm m a b, sc, ex => match ex with
    | .Call (.Attribute o n apos) [y] [] pos => decide (n = m.name) && notSup o && (apos.endLine == pos.line) && notStar y && chE B N a sc o && chE B N b sc y
    | _ => false
  | .att a C f, sc, ex => match ex with
    | .Attribute o g _ => decide (g = f) && notSup o && isFld B C f && chE B N a sc o
    | _ => false
  | .met a C m i es, sc, ex => match ex with
    | .Call (.Attribute o n apos) xs [] pos => decide (n = m) && notSup o && (apos.endLine == pos.line) && decide (xs.length < 30) && isMet B C m i es.len && chE B N a sc o && chA B N es sc xs
    | _ => false
  | .mk C i es, sc, ex => match ex with
    | .Call (.Name x _) xs [] _ => decide (x = C) && isGl sc x && okName x && isMet B C "__init__" i es.len && chA B N es sc xs
    | _ => false
  | .nd _, _, e => isDict e
  | .dgt t a ks x, sc, e => match t, ks with
    | true, ks => (match dgtT e with
      | some (o, es, f) => chE B N a sc o && chA B N ks sc es && chE B N x sc f
      | none => false)
    | false, .cons k .nil => (match dgtF e with
      | some (o, i, f) => chE B N a sc o && chE B N k sc i && chE B N x sc f
      | none => false)
    | _, _ => false
  | .dat t a ks, sc, e => match t, ks with
    | false, .cons k .nil => (match datIn e with
      | some (o, i) => chE B N a sc o && chE B N k sc i
      | none => false)
    | _, _ => false
  | .dav a k, sc, e => (match datIn e with
      | some (o, i) => chE B N a sc o && chE B N k sc i
      | none => false)
  | .ndc a, sc, ex => match ex with
    | .Call (.Name x _) [y] [] _ => decide (x = "dict") && isGl sc x && decide (x ∈ B.bs) && notStar y && chE B N a sc y
    | _ => false
  | .din t n ks a, sc, e => match t, ks with
    | false, .cons k .nil => (match dinIn n e with
      | some (i, o) => chE B N a sc o && chE B N k sc i
      | none => false)
    | _, _ => false
  | .ncomp own t s c e, sc, ex => match ex with
    | .ListComp elt [⟨tg, iter, ifs, asy⟩] scope _ => decide (asy = 0) && blkC N sc scope (ownP N own) && t.slots.all (fun i => decide (i ∈ own)) && notSet iter && chI B N s sc tg iter && chG N scope t tg && (match ifs with
      | [] => isYes c
      | [x] => chT B N c scope x
      | _ => false) && chE B N e scope elt
    | _ => false
  | .dsd a k x, sc, e => (match dsdIn e with
      | some (o, i, f) => chE B N a sc o && chE B N k sc i && chE B N x sc f
      | none => false)
  | .ndl es, sc, e => (match ndlIn e with
      | some (ks, vs) => chP B N es sc ks vs
      | none => false)
  | .orv a b, sc, e => (match orIn e with
      | some (x, y) => chE B N a sc x && chE B N b sc y
      | none => false)
  | .isi a ts, sc, ex => match ex with
    | .Call (.Name x _) [y, z] [] _ => decide (x = "isinstance") && isGl sc x && decide (x ∈ B.bs) && notStar y && isiT B sc ts z && chE B N a sc y
    | _ => false
noncomputable def chA (B : Tb) (N : List Str) : PXs → Scope → List Expr → Bool
  | .nil, _, [] => true
  | .cons a r, sc, x :: xs => notStar x && chE B N a sc x && chA B N r sc xs
  | _, _, _ => false
noncomputable def chP (B : Tb) (N : List Str) : PXs → Scope → List (Option Expr) → List Expr → Bool
  | .nil, _, [], [] => true
  | .cons a (.cons b r), sc, some x :: ks, y :: vs => chE B N a sc x && chE B N b sc y && chP B N r sc ks vs
  | _, _, _, _ => false
noncomputable def chB (B : Tb) (N : List Str) : PXs → Scope → List Expr → Bool
  | .cons a .nil, sc, [x] => chE B N a sc x
  | .cons a (.cons b r), sc, x :: y :: xs => chE B N a sc x && chB B N (.cons b r) sc (y :: xs)
  | _, _, _ => false
noncomputable def chT (B : Tb) (N : List Str) : PT → Scope → Expr → Bool
  | .val a, sc, x => plainTest x && chE B N a sc x
  | .cmp op a b, sc, ex => match ex with
    | .Compare x [op'] [y] _ => decide (op = op') && !behindInMarks op y && chE B N a sc x && chE B N b sc y
    | _ => false
  | .cmp2 o1 o2 a b c, sc, ex => match ex with
    | .Compare x [o1', o2'] [y, z] _ => decide (o1 = o1') && decide (o2 = o2') && !lastMarks [o1, o2] [y, z] && chE B N a sc x && chE B N b sc y && chE B N c sc z
    | _ => false
  | .bop op es, sc, ex => match ex with
    | .BoolOp op' xs _ => decide (op = op') && chTs B N es sc xs
    | _ => false
  | .nt a, sc, ex => match ex with
    | .UnaryOp .Not x _ => chT B N a sc x
    | _ => false
  | .dnv n k a, sc, e => (match dinIn n e with
      | some (i, o) => chE B N a sc o && chE B N k sc i
      | none => false)
  | .din n k a, sc, e => (match dinIn n e with
      | some (i, o) => chE B N a sc o && chE B N k sc i
      | none => false)
  | _, _, _ => false
noncomputable def chTs (B : Tb) (N : List Str) : PTs → Scope → List Expr → Bool
  | .cons a .nil, sc, [x] => chT B N a sc x
  | .cons a (.cons b r), sc, x :: y :: xs => chT B N a sc x && chTs B N (.cons b r) sc (y :: xs)
  | _, _, _ => false
noncomputable def chO (B : Tb) (N : List Str) : PO → Scope → Option Expr → Bool
  | .no, _, none => true
  | .some a, sc, some x => chE B N a sc x
  | _, _, _ => false
noncomputable def chI (B : Tb) (N : List Str) : Src → Scope → Expr → Expr → Bool
  | .seq a, sc, _, x => chE B N a sc x
  | .dk a, sc, _, x => chE B N a sc x
  | .rng es, sc, _, ex => match ex with
    | .Call (.Name x _) xs [] _ => decide (x = "range") && isGl sc x && decide (x ∈ B.bs) && decide (1 ≤ es.len ∧ es.len ≤ 3) && chA B N es sc xs
    | _ => false
  | .enum a, sc, tg, ex => match tg, ex with
    | .Tuple _ _ _, .Call (.Name x _) [y] [] _ => decide (x = "enumerate") && isGl sc x && decide (x ∈ B.bs) && notStar y && chE B N a sc y
    | _, _ => false
  | .zip a b, sc, tg, ex => match tg, ex with
    | .Tuple _ _ _, .Call (.Name x _) [y, z] [] _ => decide (x = "zip") && isGl sc x && decide (x ∈ B.bs) && notStar y && notStar z && chE B N a sc y && chE B N b sc z
    | _, _ => false
end

/-! ### the context -/
/-- an exception class of the text, made with a text -/
structure ExcAt (K : PySem.W.Frag) (x : Str) (C : Addr) : Prop where
  ns : PySem.W.nsIn K mainGlobals x = some (some (.ref C))
  ex : PySem.W.excIn K C [.type "ValueError", .type "Exception", .type "BaseException", .type "object"] "ValueError.__new__" = true
  kp : PySem.W.keepIn K (.ref C) = true
  sub : PySem.W.subIn K (.ref C) (.type "BaseException") = some true
  ty : PySem.W.typeIn K (.ref C) = some (.type "type")
structure GOk (B : Tb) (cl : Nat → Value) (cf : CF) (k : Nat) (P : Program) (w : World) (K : PySem.W.Frag) (mg : Str → Option Value) (base : Heap) : Prop where
  fn : ∀ (i : Nat) (d : Dd), B.T.lookup i = some d → ∃ (f : Addr) (fd : FuncData), (d.cls = "" → mg d.name = some (.ref f)) ∧ (d.cls ≠ "" → ∃ C : Addr, PySem.W.nsIn K mainGlobals d.cls = some (some (.ref C)) ∧ mg d.cls = some (.ref C) ∧ Cls K C ∧ Meth K C d.name f ∧ (d.name = "__init__" → Mk K C f)) ∧ PySem.W.keepIn K (.ref f) = true ∧ Binds K fd d.ps [] ∧ FnOk P w K mg base (L2.CX P w) k f fd d.ps (spF K cl cf d.ps.length i)
  bi : ∀ x ∈ B.bs, mg x = none
  cs : ∀ p ∈ B.cs, ∃ u V, mg p.1 = some u ∧ RelV V u ∧ ∀ wd, Rep K wd p.2 V
  ks : ∀ p ∈ B.ks, ∃ C : Addr, PySem.W.nsIn K mainGlobals p.1 = some (some (.ref C)) ∧ Cls K C ∧ ∀ f ∈ p.2, NoAttr K C f
  es : ∀ p ∈ B.es, ∃ C : Addr, mg p.1 = some (.ref C) ∧ cl p.2 = .ref C ∧ ExcAt K p.1 C
  exm : ∀ p ∈ B.es, ∀ q ∈ B.es, PySem.W.exmOne K (cl p.2) (cl q.2) = some (catches p.2 q.2)
  wd : ∀ i, B.wd = some i → ∃ d, B.T.lookup i = some d ∧ WordF K mg cl d.name
/-- the scope that runs is the written one, captured names may be cells -/
structure ScRel (sc run : Scope) : Prop where
  kind : run.kind = .function
  rel : ∀ x k, sc.names.lookup x = some k → ∃ k', run.names.lookup x = some k' ∧ (k' = k ∨ (k = .free ∧ k' = .cell))
structure Fit (B : Tb) (cl : Nat → Value) (cf : CF) (k : Nat) (N : List Str) (sc : Scope) (W : WX) (X : Cx) : Prop where
  gok : GOk B cl cf k X.prog X.w X.K X.mg X.base
  hN : X.N = N
  nd : N.Nodup
  srl : ScRel sc X.env.scope
  fnm : ∀ x, sc.names.lookup x = some .cell → X.fn x = true
  calm : X.calm = true
  room : Room (k + 1) X.A
  tk : Takes X W

section
variable {B : Tb} {cl : Nat → Value} {cf : CF} {k : Nat} {N : List Str} {sc : Scope} {W : WX} {X : Cx}
theorem ScRel.vis {run : Scope} (h : ScRel sc run) {x : Str} (v : isVis sc x = true) : Vis run x := by
  unfold isVis at v
  split at v
  · rename_i e
    obtain ⟨k', e', z⟩ := h.rel x _ e
    rcases z with z | z
    · subst z; exact .inl e'
    · cases z.1
  · rename_i e
    obtain ⟨k', e', z⟩ := h.rel x _ e
    rcases z with z | z
    · subst z; exact .inr (.inl e')
    · cases z.1
  · rename_i e
    obtain ⟨k', e', z⟩ := h.rel x _ e
    rcases z with z | z
    · subst z; exact .inr (.inr e')
    · rw [z.2] at e'; exact .inr (.inl e')
  · cases v
theorem Fit.loc (F : Fit B cl cf k N sc W X) {x : Str} (v : isLoc sc x = true) : Loc X.env.scope x ∧ (X.fn x = true ∨ X.env.scope.names.lookup x = some .local) := by
  unfold isLoc at v
  split at v
  · rename_i e
    obtain ⟨k', e', z⟩ := F.srl.rel x _ e
    rcases z with z | z
    · subst z; exact ⟨.inl e', .inr e'⟩
    · cases z.1
  · rename_i e
    obtain ⟨k', e', z⟩ := F.srl.rel x _ e
    rcases z with z | z
    · subst z; exact ⟨.inr e', .inl (F.fnm x e)⟩
    · cases z.1
  · cases v
theorem Fit.gl (F : Fit B cl cf k N sc W X) {x : Str} (v : isGl sc x = true) : Gl X x := by
  unfold isGl at v
  split at v
  · rename_i e
    obtain ⟨k', e', z⟩ := F.srl.rel x _ e
    rcases z with z | z
    · subst z; exact e'
    · cases z.1
  · cases v
theorem fld_of (F : Fit B cl cf k N sc W X) {C f : Str} {D : Addr} (h : isFld B C f = true) (hD : PySem.W.nsIn X.K mainGlobals C = some (some (.ref D))) : Cls X.K D ∧ NoAttr X.K D f := by
  unfold isFld at h
  rw [List.any_eq_true] at h
  obtain ⟨p, hp, h4⟩ := h
  rw [Bool.and_eq_true, decide_eq_true_eq, decide_eq_true_eq] at h4
  obtain ⟨D', k1, k2, k3⟩ := F.gok.ks p hp
  rw [h4.1, hD] at k1
  cases k1
  exact ⟨k2, k3 _ h4.2⟩
theorem Fit.rm (F : Fit B cl cf k N sc W X) : Room k X.A := F.room.mono (Nat.le_succ k)
theorem Fit.units5 (F : Fit B cl cf k N sc W X) : X.A.units + 65 < cLine := by have := F.room.un; omega
theorem Fit.units (F : Fit B cl cf k N sc W X) : X.A.units + 64 < cLine := F.room.units
theorem okName_iff {x : Str} (h : okName x = true) : (x == ("__debug__" : Str)) = false ∧ (x == ("__classdict__" : Str)) = false ∧ x ≠ "__name__" := by
  unfold okName at h
  simp only [Bool.and_eq_true, Bool.not_eq_true'] at h
  exact ⟨h.1.1, h.1.2, fun z => by rw [z] at h; simp at h⟩
theorem star_cons {a : Expr} {es : List Expr} {env : PySem.Env} (h : notStar a = true) : starEach (a :: es) env = (false, eval a env) :: starEach es env := by
  cases a <;> first | rfl | (simp [notStar] at h)
theorem star_none {env : PySem.Env} {pos : Pos} : ∀ {es : List Expr}, es.all notStar = true → (backTo pos (starEach es env)).any (·.1) = false
  | [], _ => rfl
  | a :: es, h => by
    rw [List.all_cons, Bool.and_eq_true] at h
    rw [star_cons h.1]
    show (false || (backTo pos (starEach es env)).any (·.1)) = false
    rw [star_none h.2]; rfl
theorem asg_cons {a : Expr} {es : List Expr} {env : PySem.Env} (h : notStar a = true) : assignEach (a :: es) env = (false, assign a env) :: assignEach es env := by
  cases a <;> first | rfl | (simp [notStar] at h)
theorem chA_star {B : Tb} {N : List Str} {sc : Scope} : ∀ {ps : PXs} {es : List Expr}, chA B N ps sc es = true → es.all notStar = true
  | .nil, [], _ => rfl
  | .nil, _ :: _, h => by simp [chA] at h
  | .cons _ _, [], h => by simp [chA] at h
  | .cons a r, e :: es, h => by
    simp only [chA, Bool.and_eq_true] at h
    rw [List.all_cons, h.1.1, chA_star h.2]; rfl
theorem chGs_facts {N : List Str} {sc : Scope} {env : PySem.Env} : ∀ {ts : Tgs} {es : List Expr}, chGs N sc ts es = true → (assignEach es env).length = ts.len ∧ (assignEach es env).findIdx? (·.1) = none
  | .nil, [], _ => ⟨rfl, rfl⟩
  | .nil, _ :: _, h => by simp [chGs] at h
  | .cons _ _, [], h => by simp [chGs] at h
  | .cons t r, e :: es, h => by
    simp only [chGs, Bool.and_eq_true] at h
    obtain ⟨h1, h2⟩ := chGs_facts (env := env) h.2
    rw [asg_cons h.1.1]
    refine ⟨by rw [List.length_cons, h1]; rfl, ?_⟩
    rw [List.findIdx?_cons, h2]; rfl
mutual
theorem g_of (F : Fit B cl cf k N sc W X) : ∀ {t : Tg} {e : Expr}, chG N sc t e = true → PG X e (rdG X.K t)
  | .nm i, e, h => by
    cases e with
    | Name x pos =>
      simp only [chG, Bool.and_eq_true, decide_eq_true_eq] at h
      obtain ⟨h1, h2⟩ := F.loc h.2
      exact g_name (by rw [F.hN]; exact F.nd) (by rw [F.hN]; exact h.1) h1 h2
    | _ => simp [chG] at h
  | .tp ts, e, h => by
    cases e with
    | Tuple es kk pos =>
      simp only [chG] at h
      obtain ⟨h1, h2⟩ := chGs_facts (env := X.env) h
      exact g_tup F.calm (gs_of F h) h1 h2
    | _ => simp [chG] at h
theorem gs_of (F : Fit B cl cf k N sc W X) : ∀ {t : Tgs} {e : List Expr}, chGs N sc t e = true → PGs X e (rdGs X.K t)
  | .nil, [], _ => gs_nil
  | .nil, _ :: _, h => by simp [chGs] at h
  | .cons _ _, [], h => by simp [chGs] at h
  | .cons t r, e :: es, h => by
    simp only [chGs, Bool.and_eq_true] at h
    refine gs_cons (g_of F h.1.2) (gs_of F h.2) ?_
    rw [asg_cons h.1.1]; rfl
end
theorem plain_ix {b : Expr} (h : plainIx b = true) : PlainIx b := fun o i => by
  cases b <;> first | rfl | (simp [plainIx] at h)
theorem plain_test {a : Expr} {env : PySem.Env} (h : plainTest a = true) (whole : Sem Value) : isTrue a env whole = (do let v ← whole; standAt a.pos; holding [v] (truthy v)) := by
  cases a <;> first | rfl | (simp [plainTest] at h)
theorem not_set {a : Expr} {env : PySem.Env} (h : notSet a = true) (x : Value) : foldedSetIterable a env x = pure x := by
  cases a <;> first | rfl | (simp [notSet] at h)
theorem lookup_map {g : Str → NameKind → NameKind} : ∀ {l : List (Str × NameKind)} {x : Str}, (l.map fun (n, k) => (n, g n k)).lookup x = (l.lookup x).map (g x)
  | [], _ => rfl
  | (n, k) :: r, x => by
    rw [List.map_cons, List.lookup_cons, List.lookup_cons]
    by_cases h : x = n
    · subst h; simp
    · have e : (x == n) = false := beq_eq_false_iff_ne.mpr h
      simp only [e]
      exact lookup_map
theorem relabel_names (scope : Scope) (env : PySem.Env) (x : Str) : (relabel scope env).names.lookup x = (scope.names.lookup x).map fun k => if (k == .free && env.scope.kind == .function && env.kindOf x == some .cell) then .cell else k := by
  unfold relabel
  have : (fun (p : Str × NameKind) => if (p.2 == .free && env.scope.kind == .function && env.kindOf p.1 == some .cell) = true then (p.1, NameKind.cell) else (p.1, p.2)) =
      fun (p : Str × NameKind) => (p.1, (fun n k => if (k == .free && env.scope.kind == .function && env.kindOf n == some .cell) = true then NameKind.cell else k) p.1 p.2) := by
    funext p
    split <;> simp_all
  show (scope.names.map (fun (p : Str × NameKind) => if (p.2 == .free && env.scope.kind == .function && env.kindOf p.1 == some .cell) = true then (p.1, NameKind.cell) else (p.1, p.2))).lookup x = _
  rw [this]
  exact lookup_map (g := fun n k => if (k == .free && env.scope.kind == .function && env.kindOf n == some .cell) = true then NameKind.cell else k)
theorem blk_run {N : List Str} {sc run scope : Scope} {own : List (Str × Nat)} (h : BlkOk N sc scope own) (r : ScRel sc run) : BlkOk N run scope own :=
  ⟨h.kind, h.uniq, h.ix, fun y hy e => by
    rcases h.free y hy e with z | z
    · obtain ⟨k', e', q⟩ := r.rel _ _ z
      rcases q with q | q
      · subst q; exact .inl e'
      · cases q.1
    · obtain ⟨k', e', q⟩ := r.rel _ _ z
      rcases q with q | q
      · subst q; exact .inr e'
      · rw [q.2] at e'; exact .inl e', h.own⟩
theorem Fit.blk (F : Fit B cl cf k N sc W X) {scope : Scope} (hk : scope.kind = .function) (s : Shared) (H : Hp) (C : Addr) (cl' : List (Str × Addr)) (fp : List Addr) :
    Fit B cl cf k N scope Wfalse (X.blk s H scope (compEnvC scope cl' C X.env) fp) where
  gok := F.gok
  hN := F.hN
  nd := F.nd
  srl := ⟨hk, fun x kd e => by
    show ∃ k', (relabel scope X.env).names.lookup x = some k' ∧ _
    rw [relabel_names, e]
    refine ⟨_, rfl, ?_⟩
    simp only
    split
    · rename_i h
      simp only [Bool.and_eq_true, beq_iff_eq] at h
      exact .inr ⟨h.1.1, rfl⟩
    · exact .inl rfl⟩
  fnm := fun x e => by
    show (scope.names.lookup x == some .cell) = true
    rw [e]; rfl
  calm := F.calm
  room := F.room
  tk := fun u s' ⟨_, _, _, _, _, _, _, _, _, _, _, _, _, _, _, _, h⟩ => h.elim
theorem ownP_snd {N : List Str} (own : List Nat) : (ownP N own).map (·.2) = own := by
  unfold ownP
  rw [List.map_map]
  exact List.map_id _

theorem not_sup {o : Expr} {n : Str} {env : PySem.Env} (h : notSup o = true) : attributeBase o n env (eval o env) = eval o env := by
  unfold attributeBase
  split
  · simp [notSup] at h
  · rfl
/-- a method's call, as it is told -/
theorem ht_of {o : Expr} {m : Str} {apos pos : Pos} {args : List Expr} {env : PySem.Env} (hb : attributeBase o m env (eval o env) = eval o env) (ha : (backTo pos (starEach args env)).any (·.1) = false) (hn : args.length < 30) (hl : (apos.endLine == pos.line) = true) :
    eval (.Call (.Attribute o m apos) args [] pos) env = (do
      let ov ← eval o env
      standAt apos.atName
      let (f, first) ← holding [ov] (getMethod ov m (do return (← importBound o env).getD true))
      callWith pos f first (backTo pos (starEach args env)) (backToKw pos (keywordEach [] env))) := by
  have hf : methodCallForm (args.length + ([] : List Keyword).length) (backTo pos (starEach args env)) (backToKw pos (keywordEach [] env)) = true := by
    unfold methodCallForm
    have e1 : (backTo pos (starEach args env)).all (!·.1) = true := by
      rw [List.all_eq_not_any_not]
      simpa using ha
    rw [e1]
    simpa [keywordEach, backToKw] using hn
  show (do
    let ov ← attributeBase o m env (eval o env)
    standAt apos.atName
    methodCall o m apos pos env ov (args.length + ([] : List Keyword).length) (backTo pos (starEach args env)) (backToKw pos (keywordEach [] env))) = _
  rw [hb]
  unfold methodCall calleeOf methodCallPos
  rw [hf]
  simp only [hl, if_true, Bool.not_true, Bool.false_or, pure_bind]
theorem not_call {o : Expr} {n : Str} {env : PySem.Env} (h : notCall o = true) : attributeBase o n env (eval o env) = eval o env := by
  cases o <;> first | rfl | (simp [notCall] at h)
theorem m2_of {o i f : Expr} {n : Str} {apos pos : Pos} (h1 : notCall o = true) (h2 : (apos.endLine == pos.line) = true) (h3 : notStar i = true) (h4 : notStar f = true) : M2 X o n apos i f pos := by
  have hst : starEach [i, f] X.env = [(false, eval i X.env), (false, eval f X.env)] := by rw [star_cons h3, star_cons h4]; rfl
  exact ⟨not_call h1, by rw [hst]; rfl, h2, by rw [hst]; rfl⟩
theorem noSl_of {i : Expr} (h : plainIx i = true) : NoSl i := by
  cases i <;> first | (simp [plainIx] at h; done) | exact fun _ _ => rfl
theorem cst_of {v : PV} {c : Const} {j : Nat} {pos : Pos} (h : cstOk v c = true) : ∃ u, L2.PE X (.Constant c j pos) (tC u) ∧ ∀ w, Rep X.K w v u := by
  unfold cstOk at h
  split at h
  · rw [decide_eq_true_eq] at h
    subst h
    exact ⟨_, pe_int, fun w => .int _⟩
  · rw [Bool.and_eq_true, decide_eq_true_eq, decide_eq_true_eq] at h
    obtain ⟨rfl, hz⟩ := h
    exact ⟨_, pe_str, fun w => .str _ (by rw [PL.len_eq]; exact hz)⟩
  · rw [decide_eq_true_eq] at h
    subst h
    exact ⟨_, pe_bl, fun w => .bl _⟩
  · exact ⟨_, pe_non, fun w => .non⟩
  · cases h

mutual
theorem sE : ∀ (p : PX) (sc : Scope) (W : WX) (X : Cx) (e : Expr), Fit B cl cf k N sc W X → chE B N p sc e = true → L2.PE X e (rdE X.K cl W cf p)
  | .var i, sc, W, X, e, F, h => by
    cases e with
    | Name x pos =>
      replace h := andE h
      simp only [Bool.and_eq_true, decide_eq_true_eq] at h
      obtain ⟨h1, h2, _⟩ := okName_iff h.2
      exact x_var (by rw [F.hN]; exact h.1.1) (F.srl.vis h.1.2) h1 h2
    | _ => exact absurd h Bool.false_ne_true
  | .cst v, sc, W, X, e, F, h => by
    cases e with
    | Constant c j pos =>
      replace h : (cstOk v c) = true := h
      obtain ⟨u, h1, h2⟩ := cst_of (X := X) (j := j) (pos := pos) h
      exact x_cst h1 h2
    | _ => exact absurd h Bool.false_ne_true
  | .glb x v, sc, W, X, e, F, h => by
    cases e with
    | Name y pos =>
      replace h := andE h
      simp only [Bool.and_eq_true, decide_eq_true_eq] at h
      obtain ⟨⟨⟨rfl, h1⟩, h2⟩, h3⟩ := h
      unfold glbIn at h3
      rw [List.any_eq_true] at h3
      obtain ⟨⟨y, v'⟩, hm, h3⟩ := h3
      rw [Bool.and_eq_true, decide_eq_true_eq] at h3
      obtain ⟨h4, h5⟩ := h3
      cases h4
      cases PV.eq_of_beq h5
      obtain ⟨u, V, e1, e2, e3⟩ := F.gok.cs _ hm
      exact x_glb (pe_glob (F.gl h1) e1 e2 (okName_iff h2).1) e3
    | _ => exact absurd h Bool.false_ne_true
  | .tup es, sc, W, X, e, F, h => by
    cases e with
    | Tuple xs j pos =>
      replace h : (chA B N es sc xs) = true := h
      exact x_tup (sA es sc W X xs F h)
    | _ => exact absurd h Bool.false_ne_true
  | .lst es, sc, W, X, e, F, h => by
    cases e with
    | List xs pos =>
      replace h : (chA B N es sc xs) = true := h
      exact x_lst (sA es sc W X xs F h)
    | _ => exact absurd h Bool.false_ne_true
  | .bin op a b, sc, W, X, e, F, h => by
    cases e with
    | BinOp x op' y pos =>
      replace h := andE h
      simp only [Bool.and_eq_true, decide_eq_true_eq] at h
      obtain ⟨⟨rfl, h1⟩, h2⟩ := h
      exact x_bin (sE a sc W X x F h1) (sE b sc W X y F h2)
    | _ => exact absurd h Bool.false_ne_true
  | .cmp op a b, sc, W, X, e, F, h => by
    cases e with
    | Compare x ops cs pos =>
      rcases ops with _ | ⟨op', _ | ⟨_, _⟩⟩ <;> rcases cs with _ | ⟨y, _ | ⟨_, _⟩⟩ <;> first | exact absurd h Bool.false_ne_true | (replace h := andE h; simp at h)
      obtain ⟨⟨⟨rfl, h0⟩, h1⟩, h2⟩ := h
      exact x_cmp F.units5 (sE a sc W X _ F h1) (sE b sc W X _ F h2) h0
    | _ => exact absurd h Bool.false_ne_true
  | .cmp2 o1 o2 a b c, sc, W, X, e, F, h => by
    cases e with
    | Compare x ops cs pos =>
      rcases ops with _ | ⟨o1', _ | ⟨o2', _ | ⟨_, _⟩⟩⟩ <;> rcases cs with _ | ⟨y, _ | ⟨z, _ | ⟨_, _⟩⟩⟩ <;> first | exact absurd h Bool.false_ne_true | (replace h := andE h; simp at h)
      obtain ⟨⟨⟨⟨⟨rfl, rfl⟩, h0⟩, h1⟩, h2⟩, h3⟩ := h
      exact x_cmp2 F.units5 (sE a sc W X _ F h1) (sE b sc W X _ F h2) (sE c sc W X _ F h3) h0
    | _ => exact absurd h Bool.false_ne_true
  | .bop op es, sc, W, X, e, F, h => by
    cases e with
    | BoolOp op' xs pos =>
      replace h := andE h
      simp only [Bool.and_eq_true, decide_eq_true_eq] at h
      obtain ⟨rfl, h1⟩ := h
      exact x_bop (sB es op sc W X xs pos F h1)
    | _ => exact absurd h Bool.false_ne_true
  | .nt a, sc, W, X, e, F, h => by
    cases e with
    | UnaryOp o x pos =>
      cases o <;> first | exact absurd h Bool.false_ne_true | skip
      exact x_nt (sE a sc W X _ F h)
    | _ => exact absurd h Bool.false_ne_true
  | .neg a, sc, W, X, e, F, h => by
    cases e with
    | UnaryOp o x pos =>
      cases o <;> first | exact absurd h Bool.false_ne_true | skip
      exact x_neg (sE a sc W X _ F h)
    | _ => exact absurd h Bool.false_ne_true
  | .ite c a b, sc, W, X, e, F, h => by
    cases e with
    | IfExp x y z pos =>
      replace h := andE h
      simp only [Bool.and_eq_true] at h
      exact x_ite (sT c sc W X x F h.1.1) (sE a sc W X y F h.1.2) (sE b sc W X z F h.2)
    | _ => exact absurd h Bool.false_ne_true
  | .sub a i, sc, W, X, e, F, h => by
    cases e with
    | Subscript x y pos =>
      replace h := andE h
      simp only [Bool.and_eq_true] at h
      exact x_sub (sE a sc W X x F h.1.2) (sE i sc W X y F h.2) (plain_ix h.1.1)
    | _ => exact absurd h Bool.false_ne_true
  | .slc a lo hi, sc, W, X, e, F, h => by
    cases e with
    | Subscript x y pos =>
      cases y with
      | Slice l u st p2 =>
        cases st <;> first | exact absurd h Bool.false_ne_true | (replace h := andE h; simp at h)
        exact x_slc (sE a sc W X _ F h.1.1) (sO lo sc W X _ F h.1.2) (sO hi sc W X _ F h.2)
      | _ => exact absurd h Bool.false_ne_true
    | _ => exact absurd h Bool.false_ne_true
  | .call f es, sc, W, X, e, F, h => by
    cases e with
    | Call fn xs kws pos =>
      cases fn with
      | Name x p =>
        cases kws with
        | nil =>
          replace h := andE h
          simp only [Bool.and_eq_true] at h
          obtain ⟨⟨⟨h1, h2⟩, h3⟩, h4⟩ := h
          split at h3
          · rename_i d hd
            rw [Bool.and_eq_true, Bool.and_eq_true, decide_eq_true_eq, decide_eq_true_eq, decide_eq_true_eq] at h3
            obtain ⟨⟨rfl, h30⟩, h3⟩ := h3
            obtain ⟨fa, fd, e0, _, e2, e3, e4⟩ := F.gok.fn f d hd
            have e1 := e0 h30
            have hA := sA es sc W X _ F h4
            cases xs with
            | nil =>
              cases es with
              | nil =>
                have hp : d.ps = [] := List.eq_nil_of_length_eq_zero h3.symm
                rw [hp] at e3 e4
                exact x_call0 e4 F.rm (F.gl h1) e1 e2 e3 F.tk (okName_iff h2).1
              | cons a r => exact absurd h4 Bool.false_ne_true
            | cons x xs =>
              have hst := chA_star h4
              rw [List.all_cons, Bool.and_eq_true] at hst
              exact x_call e4 F.rm (F.gl h1) e1 e2 e3 F.tk h3 hA (okName_iff h2).1 (star_cons hst.1) (star_none hst.2)
          · cases h3
        | cons _ _ => exact absurd h Bool.false_ne_true
      | _ => exact absurd h Bool.false_ne_true
    | _ => exact absurd h Bool.false_ne_true
  | .bi b es, sc, W, X, e, F, h => by
    cases e with
    | Call fn xs kws pos =>
      cases fn with
      | Name x p =>
        cases kws with
        | nil =>
          cases xs with
          | nil => exact absurd h Bool.false_ne_true
          | cons y ys =>
            replace h := andE h
            simp only [Bool.and_eq_true, decide_eq_true_eq] at h
            obtain ⟨⟨⟨rfl, h1⟩, h2⟩, h3⟩ := h
            have hst := chA_star h3
            rw [List.all_cons, Bool.and_eq_true] at hst
            exact x_bi F.calm F.units (F.gl h1) (F.gok.bi _ h2) (sA es sc W X _ F h3) (star_cons hst.1) (star_none hst.2)
        | cons _ _ => cases xs <;> exact absurd h Bool.false_ne_true
      | _ => exact absurd h Bool.false_ne_true
    | _ => exact absurd h Bool.false_ne_true
  | .comp own t s c el, sc, W, X, e, F, h => by
    cases e with
    | ListComp elt gens scope pos =>
      rcases gens with _ | ⟨⟨tg, iter, ifs, asy⟩, _ | ⟨_, _⟩⟩
      · exact absurd h Bool.false_ne_true
      · replace h := andE h
        simp only [Bool.and_eq_true, decide_eq_true_eq, List.all_eq_true] at h
        obtain ⟨⟨⟨⟨⟨⟨⟨rfl, h1⟩, h2⟩, h3⟩, h4⟩, h5⟩, h6⟩, h7⟩ := h
        have htt : ∀ {Y : Cx}, Fit B cl cf k N scope Wfalse Y → L2.PTs Y ifs (rdT Y.K cl Wfalse cf c) := fun {Y} FY => by
          rcases ifs with _ | ⟨x, _ | ⟨_, _⟩⟩
          · cases c <;> simp [isYes] at h6
            exact ts_yes
          · exact ts_one (sT c scope Wfalse Y x FY h6)
          · cases h6
        have ok := blk_run (blkOk_by h1) F.srl
        rw [← F.hN] at ok
        have q := pe_lc (own := ownP X.N own) (pos := pos) (g := rdG X.K t) (tt := rdT X.K cl Wfalse cf c) (te := rdE X.K cl Wfalse cf el) F.calm (by rw [F.hN]; exact F.nd) (sI s sc W X _ _ F h4) ok (fun s H C cl' fp => g_of (F.blk ok.kind s H C cl' fp) h5)
          (fun s H C cl' fp => htt (F.blk ok.kind s H C cl' fp)) (fun s H C cl' fp => sE el _ _ _ _ (F.blk ok.kind s H C cl' fp) h7) (not_set h3)
        rw [ownP_snd] at q
        exact PEimp q fun σ H Q h => x_comp h2 h
      · exact absurd h Bool.false_ne_true
    | _ => exact absurd h Bool.false_ne_true
  | .nlst es, sc, W, X, e, F, h => by
    cases e with
    | List xs pos =>
      replace h : (chA B N es sc xs) = true := h
      exact x_nlst (sA es sc W X _ F h)
    | _ => exact absurd h Bool.false_ne_true
  | .nof a, sc, W, X, e, F, h => by
    cases e with
    | Call fn xs kws pos =>
      cases fn with
      | Name x p =>
        rcases xs with _ | ⟨y, _ | ⟨_, _⟩⟩ <;> cases kws <;> first | exact absurd h Bool.false_ne_true | (replace h := andE h; simp at h)
        obtain ⟨⟨⟨⟨rfl, h1⟩, h2⟩, h3⟩, h4⟩ := h
        exact x_nof (F.gl h1) (F.gok.bi _ h2) (sE a sc W X _ F h4) (star_cons h3)
      | _ => exact absurd h Bool.false_ne_true
    | _ => exact absurd h Bool.false_ne_true
  | .ncat a b, sc, W, X, e, F, h => by
    cases e with
    | BinOp x op' y pos =>
      cases op' <;> first | exact absurd h Bool.false_ne_true | (replace h := andE h)
      exact x_ncat (sE a sc W X x F h.1) (sE b sc W X y F h.2)
    | _ => exact absurd h Bool.false_ne_true
  | .fz a, sc, W, X, e, F, h => by
    replace h := andE h
    exact x_fz (sE a sc W X _ F h.2)
  | .mth m a .nil, sc, W, X, e, F, h => by
    cases e with
    | Call fn xs kws pos =>
      cases fn with
      | Attribute o n apos =>
        rcases xs with _ | ⟨y, _ | ⟨_, _⟩⟩ <;> cases kws <;> first | exact absurd h Bool.false_ne_true | (replace h := andE h; simp at h)
        obtain ⟨⟨⟨rfl, h1⟩, h2⟩, h3⟩ := h
        exact x_mth0 (sE a sc W X _ F h3) (not_call h1) (by simp [h2])
      | _ => exact absurd h Bool.false_ne_true
    | _ => exact absurd h Bool.false_ne_true
  | .mth m a (.cons b .nil), sc, W, X, e, F, h => by
    cases e with
    | Call fn xs kws pos =>
      cases fn with
      | Attribute o n apos =>
        rcases xs with _ | ⟨y, _ | ⟨_, _⟩⟩ <;> cases kws <;> first | exact absurd h Bool.false_ne_true | (replace h := andE h; simp at h)
        obtain ⟨⟨⟨⟨⟨rfl, h1⟩, h2⟩, h3⟩, h4⟩, h5⟩ := h
        exact x_mth1 (sE a sc W X _ F h4) (sE b sc W X _ F h5) (not_call h1) (by simp [h2]) (star_cons h3)
      | _ => exact absurd h Bool.false_ne_true
    | _ => exact absurd h Bool.false_ne_true
  | .mth m a (.cons b (.cons c r)), sc, W, X, e, F, h => by
    cases e with
    | Call fn xs kws pos => cases fn <;> exact absurd h Bool.false_ne_true
    | _ => exact absurd h Bool.false_ne_true
  | .mxd a b, sc, W, X, e, F, h => by
    cases e with
    | Call fn xs kws pos =>
      cases fn with
      | Name x p =>
        rcases xs with _ | ⟨y, _ | ⟨_, _⟩⟩ <;> rcases kws with _ | ⟨⟨_ | nm, z, kp⟩, _ | ⟨_, _⟩⟩ <;> first | exact absurd h Bool.false_ne_true | (replace h := andE h; simp at h)
        obtain ⟨⟨⟨⟨⟨⟨rfl, rfl⟩, h1⟩, h2⟩, h3⟩, h4⟩, h5⟩ := h
        exact x_mxd F.calm F.units (F.gl h1) (F.gok.bi _ h2) (sE a sc W X _ F h4) (sE b sc W X _ F h5) (star_cons h3)
      | _ => exact absurd h Bool.false_ne_true
    | _ => exact absurd h Bool.false_ne_true
  | .mnd a b, sc, W, X, e, F, h => by
    cases e with
    | Call fn xs kws pos =>
      cases fn with
      | Name x p =>
        rcases xs with _ | ⟨y, _ | ⟨_, _⟩⟩ <;> rcases kws with _ | ⟨⟨_ | nm, z, kp⟩, _ | ⟨_, _⟩⟩ <;> first | exact absurd h Bool.false_ne_true | (replace h := andE h; simp at h)
        obtain ⟨⟨⟨⟨⟨⟨rfl, rfl⟩, h1⟩, h2⟩, h3⟩, h4⟩, h5⟩ := h
        exact x_mnd F.calm F.units (F.gl h1) (F.gok.bi _ h2) (sE a sc W X _ F h4) (sE b sc W X _ F h5) (star_cons h3)
      | _ => exact absurd h Bool.false_ne_true
    | _ => exact absurd h Bool.false_ne_true
  | .csel f g i es, sc, W, X, e, F, h => by
    replace h : chCsB B f g es.len sc (chE B N i sc) (chA B N es sc) e = true := h
    unfold chCsB at h
    split at h <;> first | cases h | skip
    all_goals (first | (rename_i e1; cases e1; done) | skip)
    rename_i e1
    cases e1
    simp only [Bool.and_eq_true] at h
    obtain ⟨⟨⟨⟨⟨⟨⟨h1, h2⟩, h3⟩, h4⟩, h5⟩, h6⟩, h7⟩, h8⟩ := h
    split at h6
    · rename_i d d2 hd hd2
      simp only [Bool.and_eq_true, decide_eq_true_eq] at h6
      obtain ⟨⟨⟨⟨⟨rfl, h30⟩, h31⟩, rfl⟩, h32⟩, h33⟩ := h6
      obtain ⟨fa, fd, e0, _, e2, e3, e4⟩ := F.gok.fn f d hd
      obtain ⟨ga, gd, g0, _, g2, g3, g4⟩ := F.gok.fn g d2 hd2
      have hA := sA es _ W X _ F h8
      have hst := chA_star h8
      rw [List.all_cons, Bool.and_eq_true] at hst
      exact x_csel e4 g4 F.rm (F.gl h1) (F.gl h3) (e0 h30) (g0 h32) e2 g2 e3 g3 F.tk h31 h33 (sE i _ W X _ F h7) (plain_ix h5) hA (okName_iff h2).1 (okName_iff h4).1 (star_cons hst.1) (star_none hst.2)
    · cases h6
  | .rv a b, sc, W, X, e, F, h => by
    have key : ∀ {x : Expr} {k : Nat} {p1 p2 p3 p4 : Pos}, chE B N a sc x = true → b = .neg (.cst (.int 1)) → L2.PE X (.Subscript x (.Slice none none (some (.UnaryOp .USub (.Constant (.int 1) k p1) p2)) p3) p4) (rdE X.K cl W cf (.rv a b)) := fun hx hb => by
      subst hb
      exact x_rv (sE a sc W X _ F hx) (x_neg (x_cst pe_int fun _ => .int 1)) rfl
    replace h : chRvB (chE B N a sc) b e = true := h
    unfold chRvB at h
    split at h <;> first | cases h | skip
    all_goals (first | (rename_i e1; cases e1; done) | skip)
    all_goals (first | exact key h rfl | (simp_all; done))
  | .u1 op a, sc, W, X, e, F, h => by
    replace h : (match u1In B sc op e with | some y => chE B N a sc y | none => false) = true := h
    split at h
    · rename_i y hy
      cases op with
      | lns =>
        simp only [u1In] at hy
        unfold lnsIn at hy
        split at hy
        · simp only [Option.ite_none_right_eq_some, Option.some.injEq, Bool.and_eq_true, decide_eq_true_eq] at hy
          obtain ⟨⟨⟨⟨⟨⟨⟨rfl, g1⟩, g2⟩, rfl⟩, g3⟩, g4⟩, g5⟩, rfl⟩ := hy
          exact x_lns F.calm (F.gl g1) (F.gok.bi _ g2) (F.gl g3) (F.gok.bi _ g4) (sE a sc W X _ F h) (star_cons g5)
        · cases hy
      | sss =>
        simp only [u1In] at hy
        unfold sssIn at hy
        split at hy
        · simp only [Option.ite_none_right_eq_some, Option.some.injEq, Bool.and_eq_true, decide_eq_true_eq] at hy
          obtain ⟨⟨⟨⟨⟨⟨⟨rfl, g1⟩, g2⟩, rfl⟩, g3⟩, g4⟩, g5⟩, rfl⟩ := hy
          exact x_sss F.calm F.units (F.gl g1) (F.gok.bi _ g2) (F.gl g3) (F.gok.bi _ g4) (sE a sc W X _ F h) (star_cons g5)
        · cases hy
      | trg =>
        simp only [u1In] at hy
        unfold trgIn at hy
        split at hy
        · simp only [Option.ite_none_right_eq_some, Option.some.injEq, Bool.and_eq_true, decide_eq_true_eq] at hy
          obtain ⟨⟨⟨⟨⟨⟨⟨rfl, g1⟩, g2⟩, rfl⟩, g3⟩, g4⟩, g5⟩, rfl⟩ := hy
          exact x_trg F.calm (F.gl g1) (F.gok.bi _ g2) (F.gl g3) (F.gok.bi _ g4) (sE a sc W X _ F h) (star_cons g5)
        · cases hy
      | sti =>
        simp only [u1In] at hy
        unfold stiIn at hy
        split at hy
        · simp only [Option.ite_none_right_eq_some, Option.some.injEq, Bool.and_eq_true, decide_eq_true_eq] at hy
          obtain ⟨⟨⟨⟨rfl, g1⟩, g2⟩, g3⟩, rfl⟩ := hy
          exact x_sti (F.gl g1) (F.gok.bi _ g2) (sE a sc W X _ F h) (star_cons g3)
        · cases hy
      | upp =>
        simp only [u1In] at hy
        unfold uppIn at hy
        split at hy
        · simp only [Option.ite_none_right_eq_some, Option.some.injEq, Bool.and_eq_true, decide_eq_true_eq] at hy
          obtain ⟨⟨⟨rfl, g1⟩, g2⟩, rfl⟩ := hy
          exact x_upp (sE a sc W X _ F h) (not_call g1) g2
        · cases hy
    · cases h
  | .sm m a b, sc, W, X, e, F, h => by
    cases e with
    | Call fn xs kws pos =>
      cases fn with
      | Attribute o n apos =>
        rcases xs with _ | ⟨y, _ | ⟨_, _⟩⟩ <;> cases kws <;> first | exact absurd h Bool.false_ne_true | (replace h := andE h; simp at h)
        obtain ⟨⟨⟨⟨⟨rfl, h1⟩, h2⟩, h3⟩, h4⟩, h5⟩ := h
        exact x_sm (sE a sc W X _ F h4) (sE b sc W X _ F h5) (not_sup h1) (by simp [h2]) (star_cons h3)
      | _ => exact absurd h Bool.false_ne_true
    | _ => exact absurd h Bool.false_ne_true
  | .att a C f, sc, W, X, e, F, h => by
    cases e with
    | Attribute o g pos =>
      replace h := andE h
      simp only [Bool.and_eq_true, decide_eq_true_eq] at h
      obtain ⟨⟨⟨rfl, h1⟩, h2⟩, h3⟩ := h
      exact x_att (sE a sc W X o F h3) (fun D hD => fld_of F h2 hD) (not_sup h1)
    | _ => exact absurd h Bool.false_ne_true
  | .met a C m i es, sc, W, X, e, F, h => by
    cases e with
    | Call fn xs kws pos =>
      cases fn with
      | Attribute o n apos =>
        cases kws with
        | nil =>
          replace h := andE h
          simp only [Bool.and_eq_true, decide_eq_true_eq] at h
          obtain ⟨⟨⟨⟨⟨⟨rfl, h1⟩, h2⟩, h3⟩, h4⟩, h5⟩, h6⟩ := h
          unfold isMet at h4
          split at h4
          · rename_i d hd
            simp only [Bool.and_eq_true, decide_eq_true_eq] at h4
            obtain ⟨⟨⟨rfl, rfl⟩, g1⟩, g2⟩ := h4
            obtain ⟨fa, fd, _, e1, e2, e3, e4⟩ := F.gok.fn i d hd
            obtain ⟨Da, k1, k2, k3, k4, _⟩ := e1 g1
            have hA := sA es sc W X _ F h6
            have hst := chA_star h6
            cases xs with
            | nil =>
              cases es with
              | nil => exact x_met0 (sE a sc W X o F h5) e4 F.rm k1 k3 k4 e3 F.tk g2 (ht_of (not_sup h1) rfl h3 h2)
              | cons a r => exact absurd h6 Bool.false_ne_true
            | cons x xs =>
              have ht := ht_of (m := d.name) (env := X.env) (not_sup h1) (star_none hst) h3 h2
              rw [List.all_cons, Bool.and_eq_true] at hst
              exact x_met (sE a sc W X o F h5) e4 F.rm k1 k3 k4 e3 F.tk g2 hA (star_cons hst.1) (star_none hst.2) ht
          · cases h4
        | cons _ _ => exact absurd h Bool.false_ne_true
      | _ => exact absurd h Bool.false_ne_true
    | _ => exact absurd h Bool.false_ne_true
  | .nd t, sc, W, X, e, F, h => by
    replace h : (isDict e) = true := h
    unfold isDict at h
    split at h
    · exact x_nd
    · cases h
  | .dgt true a ks x, sc, W, X, e, F, h => by
    have hu : X.A.units + 1 < cLine := by have := F.units; omega
    replace h : (match dgtT e with | some (o, es, f) => chE B N a sc o && chA B N ks sc es && chE B N x sc f | none => false) = true := h
    split at h
    · rename_i o es f hy
      unfold dgtT at hy
      split at hy
      · simp only [Option.ite_none_right_eq_some, Option.some.injEq, Bool.and_eq_true, decide_eq_true_eq, Prod.mk.injEq] at hy
        obtain ⟨⟨⟨⟨rfl, h1⟩, h2⟩, h3⟩, rfl, rfl, rfl⟩ := hy
        simp only [Bool.and_eq_true] at h
        exact x_dgtT hu (sE a sc W X _ F h.1.1) (sA ks sc W X _ F h.1.2) (sE x sc W X _ F h.2) (m2_of h1 h2 rfl h3)
      · cases hy
    · cases h
  | .dgt false a (.cons k .nil) x, sc, W, X, e, F, h => by
    have hu : X.A.units + 1 < cLine := by have := F.units; omega
    replace h : (match dgtF e with | some (o, i, f) => chE B N a sc o && chE B N k sc i && chE B N x sc f | none => false) = true := h
    split at h
    · rename_i o i f hy
      unfold dgtF at hy
      split at hy
      · simp only [Option.ite_none_right_eq_some, Option.some.injEq, Bool.and_eq_true, decide_eq_true_eq, Prod.mk.injEq] at hy
        obtain ⟨⟨⟨⟨⟨rfl, h1⟩, h2⟩, h3⟩, h4⟩, rfl, rfl, rfl⟩ := hy
        simp only [Bool.and_eq_true] at h
        exact x_dgtF hu (sE a sc W X _ F h.1.1) (sE k sc W X _ F h.1.2) (sE x sc W X _ F h.2) (m2_of h1 h2 h3 h4)
      · cases hy
    · cases h
  | .dgt false a .nil x, sc, W, X, e, F, h => absurd h Bool.false_ne_true
  | .dgt false a (.cons k (.cons l r)) x, sc, W, X, e, F, h => absurd h Bool.false_ne_true
  | .dat true a ks, sc, W, X, e, F, h => absurd h Bool.false_ne_true
  | .dat false a .nil, sc, W, X, e, F, h => absurd h Bool.false_ne_true
  | .dat false a (.cons k (.cons l r)), sc, W, X, e, F, h => absurd h Bool.false_ne_true
  | .dat false a (.cons k .nil), sc, W, X, e, F, h => by
    have hu : X.A.units + 1 < cLine := by have := F.units; omega
    replace h : (match datIn e with | some (o, i) => chE B N a sc o && chE B N k sc i | none => false) = true := h
    split at h
    · rename_i o i hy
      unfold datIn at hy
      split at hy
      · simp only [Option.ite_none_right_eq_some, Option.some.injEq, Prod.mk.injEq] at hy
        obtain ⟨h1, rfl, rfl⟩ := hy
        simp only [Bool.and_eq_true] at h
        exact x_datF hu (sE a sc W X _ F h.1) (sE k sc W X _ F h.2) (noSl_of h1)
      · cases hy
    · cases h
  | .ndc a, sc, W, X, e, F, h => by
    cases e with
    | Call fn xs kws pos =>
      cases fn with
      | Name x p =>
        rcases xs with _ | ⟨y, _ | ⟨_, _⟩⟩ <;> cases kws <;> first | exact absurd h Bool.false_ne_true | (replace h := andE h; simp at h)
        obtain ⟨⟨⟨⟨rfl, h1⟩, h2⟩, h3⟩, h4⟩ := h
        exact x_ndc F.calm F.units (F.gl h1) (F.gok.bi _ h2) (sE a sc W X _ F h4) (star_cons h3)
      | _ => exact absurd h Bool.false_ne_true
    | _ => exact absurd h Bool.false_ne_true
  | .dav a k, sc, W, X, e, F, h => by
    have hu : X.A.units + 1 < cLine := by have := F.units; omega
    replace h : (match datIn e with | some (o, i) => chE B N a sc o && chE B N k sc i | none => false) = true := h
    split at h
    · rename_i o i hy
      unfold datIn at hy
      split at hy
      · simp only [Option.ite_none_right_eq_some, Option.some.injEq, Prod.mk.injEq] at hy
        obtain ⟨h1, rfl, rfl⟩ := hy
        simp only [Bool.and_eq_true] at h
        exact x_dav hu (sE a sc W X _ F h.1) (sE k sc W X _ F h.2) (noSl_of h1)
      · cases hy
    · cases h
  | .din true n ks a, sc, W, X, e, F, h => absurd h Bool.false_ne_true
  | .din false n .nil a, sc, W, X, e, F, h => absurd h Bool.false_ne_true
  | .din false n (.cons k (.cons l r)) a, sc, W, X, e, F, h => absurd h Bool.false_ne_true
  | .din false n (.cons k .nil) a, sc, W, X, e, F, h => by
    have hu : X.A.units + 1 < cLine := by have := F.units; omega
    replace h : (match dinIn n e with | some (i, o) => chE B N a sc o && chE B N k sc i | none => false) = true := h
    split at h
    · rename_i i o hy
      unfold dinIn at hy
      split at hy
      · simp only [Option.ite_none_right_eq_some, Option.some.injEq, Bool.and_eq_true, decide_eq_true_eq, Prod.mk.injEq, Bool.not_eq_true'] at hy
        obtain ⟨⟨rfl, h1⟩, rfl, rfl⟩ := hy
        simp only [Bool.and_eq_true] at h
        exact x_dinF hu (sE a sc W X _ F h.1) (sE k sc W X _ F h.2) h1
      · cases hy
    · cases h
  | .orv a b, sc, W, X, e, F, h => by
    replace h : (match orIn e with | some (x, y) => chE B N a sc x && chE B N b sc y | none => false) = true := h
    split at h
    · rename_i x y hy
      unfold orIn at hy
      split at hy
      · cases hy
        simp only [Bool.and_eq_true] at h
        exact x_orv (sE a sc W X _ F h.1) (sE b sc W X _ F h.2)
      · cases hy
    · cases h
  | .ncomp own t s c el, sc, W, X, e, F, h => by
    cases e with
    | ListComp elt gens scope pos =>
      rcases gens with _ | ⟨⟨tg, iter, ifs, asy⟩, _ | ⟨_, _⟩⟩
      · exact absurd h Bool.false_ne_true
      · replace h := andE h
        simp only [Bool.and_eq_true, decide_eq_true_eq, List.all_eq_true] at h
        obtain ⟨⟨⟨⟨⟨⟨⟨rfl, h1⟩, h2⟩, h3⟩, h4⟩, h5⟩, h6⟩, h7⟩ := h
        have htt : ∀ {Y : Cx}, Fit B cl cf k N scope Wfalse Y → L2.PTs Y ifs (rdT Y.K cl Wfalse cf c) := fun {Y} FY => by
          rcases ifs with _ | ⟨x, _ | ⟨_, _⟩⟩
          · cases c <;> simp [isYes] at h6
            exact ts_yes
          · exact ts_one (sT c scope Wfalse Y x FY h6)
          · cases h6
        have ok := blk_run (blkOk_by h1) F.srl
        rw [← F.hN] at ok
        have q := pe_lc (own := ownP X.N own) (pos := pos) (g := rdG X.K t) (tt := rdT X.K cl Wfalse cf c) (te := rdE X.K cl Wfalse cf el) F.calm (by rw [F.hN]; exact F.nd) (sI s sc W X _ _ F h4) ok (fun s H C cl' fp => g_of (F.blk ok.kind s H C cl' fp) h5)
          (fun s H C cl' fp => htt (F.blk ok.kind s H C cl' fp)) (fun s H C cl' fp => sE el _ _ _ _ (F.blk ok.kind s H C cl' fp) h7) (not_set h3)
        rw [ownP_snd] at q
        exact PEimp q fun σ H Q h => x_ncomp h2 h
      · exact absurd h Bool.false_ne_true
    | _ => exact absurd h Bool.false_ne_true
  | .dsd a k x, sc, W, X, e, F, h => by
    replace h : (match dsdIn e with | some (o, i, f) => chE B N a sc o && chE B N k sc i && chE B N x sc f | none => false) = true := h
    split at h
    · rename_i o i f hy
      unfold dsdIn at hy
      split at hy
      · simp only [Option.ite_none_right_eq_some, Option.some.injEq, Bool.and_eq_true, decide_eq_true_eq, Prod.mk.injEq] at hy
        obtain ⟨⟨⟨⟨⟨rfl, h1⟩, h2⟩, h3⟩, h4⟩, rfl, rfl, rfl⟩ := hy
        simp only [Bool.and_eq_true] at h
        exact x_dsd (sE a sc W X _ F h.1.1) (sE k sc W X _ F h.1.2) (sE x sc W X _ F h.2) (m2_of h1 h2 h3 h4)
      · cases hy
    · cases h
  | .ndl es, sc, W, X, e, F, h => by
    replace h : (match ndlIn e with | some (ks, vs) => chP B N es sc ks vs | none => false) = true := h
    split at h
    · rename_i ks vs hy
      unfold ndlIn at hy
      split at hy
      · simp only [Option.ite_none_right_eq_some, Option.some.injEq, Bool.and_eq_true, Bool.not_eq_true', List.isEmpty_eq_false_iff, decide_eq_true_eq, Prod.mk.injEq] at hy
        obtain ⟨⟨h1, h2⟩, rfl, rfl⟩ := hy
        obtain ⟨g1, g2, g3, g4⟩ := sP es sc W X _ _ _ F h
        exact x_ndl g1 g2 g3 g4 h1 h2
      · cases hy
    · cases h
  | .mk C i es, sc, W, X, e, F, h => by
    cases e with
    | Call fn xs kws pos =>
      cases fn with
      | Name x p =>
        cases kws with
        | nil =>
          replace h := andE h
          simp only [Bool.and_eq_true, decide_eq_true_eq] at h
          obtain ⟨⟨⟨⟨rfl, h1⟩, h2⟩, h4⟩, h6⟩ := h
          unfold isMet at h4
          split at h4
          · rename_i d hd
            simp only [Bool.and_eq_true, decide_eq_true_eq] at h4
            obtain ⟨⟨⟨g0, rfl⟩, g1⟩, g2⟩ := h4
            obtain ⟨fa, fd, _, e1, e2, e3, e4⟩ := F.gok.fn i d hd
            obtain ⟨Da, k1, k2, k3, _, k4⟩ := e1 g1
            have hA := sA es sc W X _ F h6
            have hst := chA_star h6
            cases xs with
            | nil =>
              cases es with
              | nil => exact x_mk0 e4 F.room (F.gl h1) k2 k1 (k4 g0) e3 g2 (okName_iff h2).1
              | cons a r => exact absurd h6 Bool.false_ne_true
            | cons x xs =>
              rw [List.all_cons, Bool.and_eq_true] at hst
              exact x_mk e4 F.room (F.gl h1) k2 k1 (k4 g0) e3 g2 hA (okName_iff h2).1 (star_cons hst.1) (star_none hst.2)
          · cases h4
        | cons _ _ => exact absurd h Bool.false_ne_true
      | _ => exact absurd h Bool.false_ne_true
    | _ => exact absurd h Bool.false_ne_true
  | .isi a ts, sc, W, X, e, F, h => by
    cases e with
    | Call fn xs kws pos =>
      cases fn with
      | Name x p =>
        rcases xs with _ | ⟨y, _ | ⟨z, _ | ⟨_, _⟩⟩⟩ <;> cases kws <;> first | exact absurd h Bool.false_ne_true | (replace h := andE h; simp at h)
        obtain ⟨⟨⟨⟨⟨rfl, h1⟩, h2⟩, h3⟩, h4⟩, h5⟩ := h
        unfold isiT at h4
        split at h4
        · simp only [Bool.and_eq_true, decide_eq_true_eq] at h4
          obtain ⟨⟨rfl, g1⟩, g2⟩ := h4
          exact x_isi1 (F.gl h1) (F.gok.bi _ h2) (F.gl g1) (F.gok.bi _ g2) (sE a sc W X _ F h5) (star_cons h3)
        · simp only [Bool.and_eq_true, decide_eq_true_eq] at h4
          obtain ⟨⟨⟨⟨⟨rfl, g1⟩, g2⟩, rfl⟩, g3⟩, g4⟩ := h4
          exact x_isi2 (F.gl h1) (F.gok.bi _ h2) (F.gl g1) (F.gok.bi _ g2) (F.gl g3) (F.gok.bi _ g4) (sE a sc W X _ F h5) (star_cons h3)
        · cases h4
      | _ => exact absurd h Bool.false_ne_true
    | _ => exact absurd h Bool.false_ne_true
theorem sA : ∀ (p : PXs) (sc : Scope) (W : WX) (X : Cx) (e : List Expr), Fit B cl cf k N sc W X → chA B N p sc e = true → L2.PA X e (rdA X.K cl W cf p)
  | .nil, sc, W, X, [], F, h => x_nil
  | .nil, sc, W, X, _ :: _, F, h => absurd h Bool.false_ne_true
  | .cons _ _, sc, W, X, [], F, h => absurd h Bool.false_ne_true
  | .cons a r, sc, W, X, x :: xs, F, h => by
    replace h := andE h
    try simp only [Bool.and_eq_true] at h
    exact x_cons (sE a sc W X x F h.1.2) (sA r sc W X xs F h.2) (star_cons h.1.1)
theorem sP : ∀ (p : PXs) (sc : Scope) (W : WX) (X : Cx) (ks : List (Option Expr)) (vs : List Expr) (pos : Pos), Fit B cl cf k N sc W X → chP B N p sc ks vs = true → p.even = true ∧ PPs X pos ks vs (trsOf X.K cl W cf p) ∧ ks.all (·.isSome) = true ∧ ks.length = vs.length
  | .nil, sc, W, X, [], [], pos, F, h => ⟨rfl, pps_nil, rfl, rfl⟩
  | .nil, sc, W, X, [], _ :: _, pos, F, h => absurd h Bool.false_ne_true
  | .nil, sc, W, X, _ :: _, _, pos, F, h => absurd h Bool.false_ne_true
  | .cons _ .nil, sc, W, X, _, _, pos, F, h => absurd h Bool.false_ne_true
  | .cons _ (.cons _ _), sc, W, X, [], _, pos, F, h => absurd h Bool.false_ne_true
  | .cons _ (.cons _ _), sc, W, X, none :: _, _, pos, F, h => absurd h Bool.false_ne_true
  | .cons _ (.cons _ _), sc, W, X, some _ :: _, [], pos, F, h => absurd h Bool.false_ne_true
  | .cons a (.cons b r), sc, W, X, some x :: ks, y :: vs, pos, F, h => by
    replace h := andE h
    try simp only [Bool.and_eq_true] at h
    obtain ⟨g1, g2, g3, g4⟩ := sP r sc W X ks vs pos F h.2
    refine ⟨by simpa [PXs.even] using g1, pps_cons (sE a sc W X x F h.1.1) (sE b sc W X y F h.1.2) g2, ?_, by simp [g4]⟩
    rw [List.all_cons, g3]; rfl
theorem sB : ∀ (p : PXs) (op : BoolOp) (sc : Scope) (W : WX) (X : Cx) (e : List Expr) (pos : Pos), Fit B cl cf k N sc W X → chB B N p sc e = true → L2.PE X (.BoolOp op e pos) (rdB X.K cl W cf op p)
  | .nil, op, sc, W, X, e, pos, F, h => absurd h Bool.false_ne_true
  | .cons a .nil, op, sc, W, X, [], pos, F, h => absurd h Bool.false_ne_true
  | .cons a .nil, op, sc, W, X, [x], pos, F, h => by
    exact x_b1 (sE a sc W X x F h)
  | .cons a .nil, op, sc, W, X, _ :: _ :: _, pos, F, h => absurd h Bool.false_ne_true
  | .cons a (.cons b r), op, sc, W, X, [], pos, F, h => absurd h Bool.false_ne_true
  | .cons a (.cons b r), op, sc, W, X, [_], pos, F, h => absurd h Bool.false_ne_true
  | .cons a (.cons b r), op, sc, W, X, x :: y :: xs, pos, F, h => by
    replace h := andE h
    try simp only [Bool.and_eq_true] at h
    exact x_b2 (sE a sc W X x F h.1) (sB (.cons b r) op sc W X (y :: xs) pos F h.2)
theorem sT : ∀ (p : PT) (sc : Scope) (W : WX) (X : Cx) (e : Expr), Fit B cl cf k N sc W X → chT B N p sc e = true → L2.PT X e (rdT X.K cl W cf p)
  | .yes, sc, W, X, e, F, h => absurd h Bool.false_ne_true
  | .dnv n k a, sc, W, X, e, F, h => by
    have hu : X.A.units + 1 < cLine := by have := F.units; omega
    replace h : (match dinIn n e with | some (i, o) => chE B N a sc o && chE B N k sc i | none => false) = true := h
    split at h
    · rename_i i o hy
      unfold dinIn at hy
      split at hy
      · simp only [Option.ite_none_right_eq_some, Option.some.injEq, Bool.and_eq_true, decide_eq_true_eq, Prod.mk.injEq, Bool.not_eq_true'] at hy
        obtain ⟨⟨rfl, h1⟩, rfl, rfl⟩ := hy
        simp only [Bool.and_eq_true] at h
        exact x_tdnv hu (sE a sc W X _ F h.1) (sE k sc W X _ F h.2) h1
      · cases hy
    · cases h
  | .din n k a, sc, W, X, e, F, h => by
    have hu : X.A.units + 1 < cLine := by have := F.units; omega
    replace h : (match dinIn n e with | some (i, o) => chE B N a sc o && chE B N k sc i | none => false) = true := h
    split at h
    · rename_i i o hy
      unfold dinIn at hy
      split at hy
      · simp only [Option.ite_none_right_eq_some, Option.some.injEq, Bool.and_eq_true, decide_eq_true_eq, Prod.mk.injEq, Bool.not_eq_true'] at hy
        obtain ⟨⟨rfl, h1⟩, rfl, rfl⟩ := hy
        simp only [Bool.and_eq_true] at h
        exact x_tdin hu (sE a sc W X _ F h.1) (sE k sc W X _ F h.2) h1
      · cases hy
    · cases h
  | .val a, sc, W, X, e, F, h => by
    replace h := andE h
    try simp only [Bool.and_eq_true] at h
    exact x_tval (plain_test h.1) (sE a sc W X e F h.2)
  | .cmp op a b, sc, W, X, e, F, h => by
    cases e with
    | Compare x ops cs pos =>
      rcases ops with _ | ⟨op', _ | ⟨_, _⟩⟩ <;> rcases cs with _ | ⟨y, _ | ⟨_, _⟩⟩ <;> first | exact absurd h Bool.false_ne_true | (replace h := andE h; simp at h)
      obtain ⟨⟨⟨rfl, h0⟩, h1⟩, h2⟩ := h
      exact x_tcmp F.units5 (sE a sc W X _ F h1) (sE b sc W X _ F h2) h0
    | _ => exact absurd h Bool.false_ne_true
  | .cmp2 o1 o2 a b c, sc, W, X, e, F, h => by
    cases e with
    | Compare x ops cs pos =>
      rcases ops with _ | ⟨o1', _ | ⟨o2', _ | ⟨_, _⟩⟩⟩ <;> rcases cs with _ | ⟨y, _ | ⟨z, _ | ⟨_, _⟩⟩⟩ <;> first | exact absurd h Bool.false_ne_true | (replace h := andE h; simp at h)
      obtain ⟨⟨⟨⟨⟨rfl, rfl⟩, h0⟩, h1⟩, h2⟩, h3⟩ := h
      exact x_tcmp2 F.units5 (sE a sc W X _ F h1) (sE b sc W X _ F h2) (sE c sc W X _ F h3) h0
    | _ => exact absurd h Bool.false_ne_true
  | .bop op es, sc, W, X, e, F, h => by
    cases e with
    | BoolOp op' xs pos =>
      replace h := andE h
      try simp only [Bool.and_eq_true, decide_eq_true_eq] at h
      obtain ⟨rfl, h1⟩ := h
      exact x_tbop (sTs es op sc W X xs pos F h1)
    | _ => exact absurd h Bool.false_ne_true
  | .nt a, sc, W, X, e, F, h => by
    cases e with
    | UnaryOp o x pos =>
      cases o <;> first | exact absurd h Bool.false_ne_true | skip
      exact x_tnt (sT a sc W X _ F h)
    | _ => exact absurd h Bool.false_ne_true
theorem sTs : ∀ (p : PTs) (op : BoolOp) (sc : Scope) (W : WX) (X : Cx) (e : List Expr) (pos : Pos), Fit B cl cf k N sc W X → chTs B N p sc e = true → L2.PW X (.BoolOp op e pos) (rdBT X.K cl W cf op p)
  | .nil, op, sc, W, X, e, pos, F, h => absurd h Bool.false_ne_true
  | .cons a .nil, op, sc, W, X, [], pos, F, h => absurd h Bool.false_ne_true
  | .cons a .nil, op, sc, W, X, [x], pos, F, h => by
    exact x_tb1 (sT a sc W X x F h)
  | .cons a .nil, op, sc, W, X, _ :: _ :: _, pos, F, h => absurd h Bool.false_ne_true
  | .cons a (.cons b r), op, sc, W, X, [], pos, F, h => absurd h Bool.false_ne_true
  | .cons a (.cons b r), op, sc, W, X, [_], pos, F, h => absurd h Bool.false_ne_true
  | .cons a (.cons b r), op, sc, W, X, x :: y :: xs, pos, F, h => by
    replace h := andE h
    try simp only [Bool.and_eq_true] at h
    exact x_tb2 (sT a sc W X x F h.1) (sTs (.cons b r) op sc W X (y :: xs) pos F h.2)
theorem sO : ∀ (p : PO) (sc : Scope) (W : WX) (X : Cx) (e : Option Expr), Fit B cl cf k N sc W X → chO B N p sc e = true → L2.PO X e (rdO X.K cl W cf p)
  | .no, sc, W, X, none, F, h => x_ono
  | .no, sc, W, X, some _, F, h => absurd h Bool.false_ne_true
  | .some _, sc, W, X, none, F, h => absurd h Bool.false_ne_true
  | .some a, sc, W, X, some x, F, h => by
    exact x_osome (sE a sc W X x F h)
theorem sI : ∀ (p : Src) (sc : Scope) (W : WX) (X : Cx) (tg e : Expr), Fit B cl cf k N sc W X → chI B N p sc tg e = true → PI X tg e (rdI X.K cl W cf p)
  | .seq a, sc, W, X, tg, e, F, h => x_seq (sE a sc W X e F h)
  | .dk a, sc, W, X, tg, e, F, h => x_dk (sE a sc W X e F h)
  | .rng es, sc, W, X, tg, e, F, h => by
    cases e with
    | Call fn xs kws pos =>
      cases fn with
      | Name x p =>
        cases kws with
        | nil =>
          replace h := andE h
          try simp only [Bool.and_eq_true, decide_eq_true_eq] at h
          obtain ⟨⟨⟨⟨rfl, h1⟩, h2⟩, h3⟩, h4⟩ := h
          have hm := F.gok.bi _ h2
          have hg := F.gl h1
          have hA := sA es sc W X _ F h4
          have hst := chA_star h4
          rcases es with _ | ⟨q1, _ | ⟨q2, _ | ⟨q3, _ | ⟨q4, _⟩⟩⟩⟩ <;> rcases xs with _ | ⟨x1, _ | ⟨x2, _ | ⟨x3, _ | ⟨x4, _⟩⟩⟩⟩ <;> (try (simp [chA] at h4; done)) <;> (try (simp [PXs.len] at h3; done))
          · simp only [List.all_cons, List.all_nil, Bool.and_true] at hst
            exact x_rng1 hg hm hA (star_cons hst)
          · simp only [List.all_cons, List.all_nil, Bool.and_true, Bool.and_eq_true] at hst
            exact x_rng2 hg hm hA (by rw [star_cons hst.1, star_cons hst.2]; rfl) (star_cons hst.2)
          · have h0 := hst
            simp only [List.all_cons, List.all_nil, Bool.and_true, Bool.and_eq_true] at hst
            exact x_rng3 hg hm hA (star_cons hst.1) (star_none (by simp [hst]))
        | cons _ _ => exact absurd h Bool.false_ne_true
      | _ => exact absurd h Bool.false_ne_true
    | _ => exact absurd h Bool.false_ne_true
  | .enum a, sc, W, X, tg, e, F, h => by
    cases tg with
    | Tuple elts kk tpos =>
      cases e with
      | Call fn xs kws pos =>
        cases fn with
        | Name x p =>
          rcases xs with _ | ⟨y, _ | ⟨_, _⟩⟩ <;> cases kws <;> first | exact absurd h Bool.false_ne_true | (replace h := andE h; simp at h)
          obtain ⟨⟨⟨⟨rfl, h1⟩, h2⟩, h3⟩, h4⟩ := h
          exact x_enum (F.gl h1) (F.gok.bi _ h2) (sE a sc W X _ F h4) (star_cons h3)
        | _ => exact absurd h Bool.false_ne_true
      | _ => exact absurd h Bool.false_ne_true
    | _ => exact absurd h Bool.false_ne_true
  | .zip a b, sc, W, X, tg, e, F, h => by
    cases tg with
    | Tuple elts kk tpos =>
      cases e with
      | Call fn xs kws pos =>
        cases fn with
        | Name x p =>
          rcases xs with _ | ⟨y, _ | ⟨z, _ | ⟨_, _⟩⟩⟩ <;> cases kws <;> first | exact absurd h Bool.false_ne_true | (replace h := andE h; simp at h)
          obtain ⟨⟨⟨⟨⟨⟨rfl, h1⟩, h2⟩, h3⟩, h3b⟩, h4⟩, h5⟩ := h
          exact x_zip (F.gl h1) (F.gok.bi _ h2) (sE a sc W X _ F h4) (sE b sc W X _ F h5) (star_cons h3) (star_cons h3b) (star_none (by simp [h3b]))
        | _ => exact absurd h Bool.false_ne_true
      | _ => exact absurd h Bool.false_ne_true
    | _ => exact absurd h Bool.false_ne_true
end
end
end PL

/-! PL8: statements. -/
namespace PL
open PySem L2

noncomputable def RdO (K : PySem.W.Frag) (cl : Nat → Value) (W : WX) (w : Wd) (r : Out) (D : Ends) : Prop :=
  match r with
  | .next e st => ∀ w' σ', w.le w' → StOk K w' st → EnvOk K w' e σ' → D.nx σ' w'.H
  | .brk e st => ∀ w' σ', w.le w' → StOk K w' st → EnvOk K w' e σ' → D.bk σ' w'.H
  | .cnt e st => ∀ w' σ', w.le w' → StOk K w' st → EnvOk K w' e σ' → D.ct σ' w'.H
  | .ret v st => ∀ w' u, w.le w' → StOk K w' st → Rep K w' v u → D.rt u w'.H
  | .exc c e st => ∀ w' σ', w.le w' → StOk K w' st → EnvOk K w' e σ' → W (cl c) none σ' w'.H
  | .stuck => False
noncomputable def rdS (K : PySem.W.Frag) (cl : Nat → Value) (W : WX) (cf : CF) (p : PS) : TS := fun D σ H =>
  ∃ (w : Wd) (e : Env) (st : Sto), w.H = H ∧ EnvOk K w e σ ∧ StOk K w st ∧ RdO K cl W w (run cf p e st) D
section
variable {K : PySem.W.Frag} {cl : Nat → Value} {W : WX} {w w' : Wd} {r : Out} {D D' : Ends}
theorem RdO.up (h : RdO K cl W w r D) (hw : w.le w') : RdO K cl W w' r D := by
  cases r with
  | next e st => exact fun w2 σ2 a b c => h w2 σ2 (hw.trans a) b c
  | brk e st => exact fun w2 σ2 a b c => h w2 σ2 (hw.trans a) b c
  | cnt e st => exact fun w2 σ2 a b c => h w2 σ2 (hw.trans a) b c
  | ret v st => exact fun w2 u a b c => h w2 u (hw.trans a) b c
  | exc c e st => exact fun w2 σ2 a b c => h w2 σ2 (hw.trans a) b c
  | stuck => exact h
/-- an expression ahead -/
theorem RdO.out {α β : Type} {R : Wd → α → β → Prop} {x : Res α} {e : Env} {σ : St} {f : α → Sto → Out} (he : EnvOk K w e σ) (h : RdO K cl W w (x.out e f) D) :
    RdR K cl (WE W σ) R w x (fun b H => ∃ (w' : Wd) (a : α) (st : Sto), w'.H = H ∧ w.le w' ∧ StOk K w' st ∧ R w' a b ∧ RdO K cl W w' (f a st) D) := by
  cases x with
  | ok a st => exact fun w2 b h1 h2 h3 => ⟨w2, a, st, rfl, h1, h2, h3, RdO.up h h1⟩
  | exc c st => exact fun w2 h1 h2 => h w2 σ h1 h2 (he.mono h1)
  | stuck => exact h
end
theorem PSimp {X : Cx} {s : Stmt} {t t' : TS} (h : L2.PS X s t) (f : ∀ D σ H, σ.length = X.N.length → t' D σ H → t D σ H) : L2.PS X s t' := ⟨fun pins s σ H D I q => h.run pins s σ H D I (f D σ H I.len q)⟩
theorem PSsimp {X : Cx} {s : List Stmt} {t t' : TS} (h : L2.PSs X s t) (f : ∀ D σ H, t' D σ H → t D σ H) : L2.PSs X s t' := ⟨fun pins s σ H D I q => h.run pins s σ H D I (f D σ H q)⟩

section
variable {X : Cx} {cl : Nat → Value} {W : WX} {cf : CF} {pos : Pos} {a b c tg iter : Expr} {pa pb : PX}
theorem s_nil : L2.PSs X [] (rdS X.K cl W cf .skip) := by
  refine PSsimp pss_nil fun D σ H h => ?_
  obtain ⟨w, e, st, rfl, he, hs, h⟩ := h
  simp only [run] at h
  exact h w σ (.refl w) hs he
theorem s_cons {s : Stmt} {ss : List Stmt} {p q : PS} (h1 : L2.PS X s (rdS X.K cl W cf p)) (h2 : L2.PSs X ss (rdS X.K cl W cf q)) : L2.PSs X (s :: ss) (rdS X.K cl W cf (.seq p q)) := by
  refine PSsimp (pss_cons h1 h2) fun D σ H h => ?_
  obtain ⟨w, e, st, rfl, he, hs, h⟩ := h
  simp only [run] at h
  refine ⟨w, e, st, rfl, he, hs, ?_⟩
  cases q : run cf p e st with
  | next e1 st1 =>
    rw [q] at h
    exact fun w2 σ2 h1 h2 h3 => ⟨w2, e1, st1, rfl, h3, h2, RdO.up h h1⟩
  | brk e1 st1 => rw [q] at h; exact h
  | cnt e1 st1 => rw [q] at h; exact h
  | ret v st1 => rw [q] at h; exact h
  | exc c e1 st1 => rw [q] at h; exact h
  | stuck => rw [q] at h; exact h
/-- a list that is written no more -/
theorem s_frz {s : Stmt} {i : Nat} {p : PS} (h : L2.PS X s (rdS X.K cl W cf p)) : L2.PS X s (rdS X.K cl W cf (.frz i p)) := by
  refine PSimp h fun D σ H _ h => ?_
  obtain ⟨w, e, st, rfl, he, hs, h⟩ := h
  simp only [run] at h
  split at h
  · rename_i l hl
    split at h
    · rename_i xs hc
      obtain ⟨u, hu, ru⟩ := he i _ hl
      cases ru with
      | ref q =>
        refine ⟨w.frz l, e.set i (some (.lst xs)), st.set l .dead, rfl, fun j v hv => ?_, hs.frz _, h.up Wd.frz_le⟩
        by_cases hj : i = j
        · subst hj
          have hlt : i < e.length := (List.getElem?_eq_some_iff.mp hl).1
          rw [List.getElem?_set_self hlt] at hv
          cases hv
          exact ⟨_, hu, hs.frz_rep q hc⟩
        · rw [List.getElem?_set_ne hj] at hv
          obtain ⟨u', h1, h2⟩ := he j v hv
          exact ⟨u', h1, h2.mono Wd.frz_le⟩
      | gone q =>
        have := hs.gone _ q
        rw [hc] at this
        cases this
    · exact h.elim
  · exact h.elim
/-- behind the lock -/
theorem un_get {w w' : Wd} {st st1 : Sto} {a : Addr} {od : Obj} {us : List (List L2.Key × V)} {l : Nat} (hl : w.m[l]? = some (some a)) (hH : w.H a = some (.frz od (.dT us))) (hw : w.le w') (hs : StOk X.K w' st) (h : unS l st = some st1) :
    some a ∈ w'.m ∧ StOk X.K (w'.ow a (.dT us)) st1 ∧ w'.H a = some (.frz od (.dT us)) := by
  have h2 := hw.lck _ _ _ hH
  unfold unS at h
  split at h
  · rename_i kvs hc
    cases h
    rcases hw.loc _ _ hl with z | z
    · obtain ⟨c, hc2, o⟩ := hs.cell _ _ z
      rw [hc] at hc2
      cases hc2
      obtain ⟨od', us', h3, rd⟩ := o
      rw [h2] at h3
      cases h3
      exact ⟨m_mem z, hs.ow z ⟨us, upd_same, rd.mono0 (Wd.ow_le0 (m_mem z))⟩, h2⟩
    · have := hs.gone _ z
      rw [hc] at this
      cases this
  · cases h
/-- a dict that is locked for a statement -/
theorem s_lkd {s : Stmt} {i : Nat} {p : PS} (h : L2.PS X s (rdS X.K cl W cf p)) : L2.PS X s (rdS X.K cl W cf (.lkd i p)) := by
  refine PSimp (ps_lock h) fun D σ H _ h => ?_
  obtain ⟨w, e, st, rfl, he, hs, h⟩ := h
  simp only [run] at h
  unfold lkE at h
  split at h
  · rename_i l hl
    split at h
    · rename_i kvs hc
      obtain ⟨u, hu, ru⟩ := he i _ hl
      cases ru with
      | gone q =>
        have := hs.gone _ q
        rw [hc] at this
        cases this
      | ref q =>
        rename_i a
        obtain ⟨c, hc2, o⟩ := hs.cell _ _ q
        rw [hc] at hc2
        cases hc2
        obtain ⟨us, hH, rd⟩ := o
        refine ⟨a, .dT us, hH, trivial, fun od => ?_⟩
        have hw : w.le (w.ow a (.frz od (.dT us))) := Wd.ow_le (m_mem q) (fun _ _ z => by rw [hH] at z; cases z)
        refine ⟨w.ow a (.frz od (.dT us)), e, st.set l (.fdc kvs), rfl, he.mono hw, hs.ow q ⟨od, us, upd_same, rd.mono hw⟩, ?_⟩
        have back : ∀ {w' : Wd} {st' st1 : Sto}, (w.ow a (.frz od (.dT us))).le w' → StOk X.K w' st' → unS l st' = some st1 →
            w'.H a = some (.frz od (.dT us)) ∧ w'.le0 (w'.ow a (.dT us)) ∧ w.le (w'.ow a (.dT us)) ∧ StOk X.K (w'.ow a (.dT us)) st1 := fun {w' st' st1} hw' hs' hu' => by
          obtain ⟨k1, k2, k3⟩ := un_get (w := w.ow a (.frz od (.dT us))) q upd_same hw' hs' hu'
          refine ⟨k3, Wd.ow_le0 k1, ⟨(hw.toLe0.trans hw'.toLe0).trans (Wd.ow_le0 k1), fun b o u hb => ?_⟩, k2⟩
          have hb2 := hw'.lck b o u (hw.lck b o u hb)
          show upd w'.H a (.dT us) b = _
          rw [upd_ne (fun z => by rw [z, hH] at hb; cases hb)]
          exact hb2
        replace h : RdO X.K cl W w (unO l (run cf p e (st.set l (.fdc kvs)))) D := h
        cases r : run cf p e (st.set l (.fdc kvs)) with
        | next e1 st1 =>
          rw [r] at h
          intro w' σ' a1 a2 a3
          simp only [unO] at h
          split at h
          · rename_i st2 hu2
            obtain ⟨k1, k2, k3, k4⟩ := back a1 a2 hu2
            exact ⟨k1, h _ σ' k3 k4 (a3.mono0 k2)⟩
          · exact h.elim
        | brk e1 st1 =>
          rw [r] at h
          intro w' σ' a1 a2 a3
          simp only [unO] at h
          split at h
          · rename_i st2 hu2
            obtain ⟨k1, k2, k3, k4⟩ := back a1 a2 hu2
            exact ⟨k1, h _ σ' k3 k4 (a3.mono0 k2)⟩
          · exact h.elim
        | cnt e1 st1 =>
          rw [r] at h
          intro w' σ' a1 a2 a3
          simp only [unO] at h
          split at h
          · rename_i st2 hu2
            obtain ⟨k1, k2, k3, k4⟩ := back a1 a2 hu2
            exact ⟨k1, h _ σ' k3 k4 (a3.mono0 k2)⟩
          · exact h.elim
        | ret v st1 =>
          rw [r] at h
          intro w' u a1 a2 a3
          simp only [unO] at h
          split at h
          · rename_i st2 hu2
            obtain ⟨k1, k2, k3, k4⟩ := back a1 a2 hu2
            exact ⟨k1, h _ u k3 k4 (a3.mono0 k2)⟩
          · exact h.elim
        | exc c e1 st1 => rw [r] at h; exact h.elim
        | stuck => rw [r] at h; exact h.elim
    · exact h.elim
  · exact h.elim
theorem s_pass : L2.PS X (.Pass pos) (rdS X.K cl W cf .skip) := by
  refine PSimp ps_pass fun D σ H _ h => ?_
  obtain ⟨w, e, st, rfl, he, hs, h⟩ := h
  simp only [run] at h
  exact h w σ (.refl w) hs he
theorem s_brk : L2.PS X (.Break pos) (rdS X.K cl W cf .brk) := by
  refine PSimp ps_break fun D σ H _ h => ?_
  obtain ⟨w, e, st, rfl, he, hs, h⟩ := h
  simp only [run] at h
  exact h w σ (.refl w) hs he
theorem s_cnt : L2.PS X (.Continue pos) (rdS X.K cl W cf .cnt) := by
  refine PSimp ps_continue fun D σ H _ h => ?_
  obtain ⟨w, e, st, rfl, he, hs, h⟩ := h
  simp only [run] at h
  exact h w σ (.refl w) hs he
theorem s_ret (ha : L2.PE X a (rdE X.K cl W cf pa)) : L2.PS X (.Return (some a) pos) (rdS X.K cl W cf (.ret pa)) := by
  refine PSimp (ps_ret ha) fun D σ H _ h => ?_
  obtain ⟨w, e, st, rfl, he, hs, h⟩ := h
  simp only [run] at h
  refine ⟨w, e, st, rfl, he, hs, (RdO.out he h).mono fun u H1 hQ => ?_⟩
  obtain ⟨w1, v1, st1, e1, hw1, hs1, r1, h1⟩ := hQ
  subst e1
  exact h1 w1 u (.refl w1) hs1 r1
theorem s_retN : L2.PS X (.Return none pos) (rdS X.K cl W cf (.ret (.cst .non))) := by
  refine PSimp ps_retN fun D σ H _ h => ?_
  obtain ⟨w, e, st, rfl, he, hs, h⟩ := h
  simp only [run, ev, Res.out] at h
  exact h w .non (.refl w) hs .non
theorem s_exp (ha : L2.PE X a (rdE X.K cl W cf pa)) (hw : swapsWith a none pos.line X.env = pure false) : L2.PS X (.Expr a pos) (rdS X.K cl W cf (.exp pa)) := by
  refine PSimp (ps_expr ha hw) fun D σ H _ h => ?_
  obtain ⟨w, e, st, rfl, he, hs, h⟩ := h
  simp only [run] at h
  refine ⟨w, e, st, rfl, he, hs, (RdO.out he h).mono fun u H1 hQ => ?_⟩
  obtain ⟨w1, v1, st1, e1, hw1, hs1, r1, h1⟩ := hQ
  subst e1
  exact h1 w1 σ (.refl w1) hs1 (he.mono hw1)
/-- what an assignment reads -/
theorem asg_rd {t : Tg} {te : TE} {D : Ends} {σ : St} {w : Wd} {e : Env} {st : Sto} (he : EnvOk X.K w e σ)
    (hte : ∀ Q, RdR X.K cl (WE W σ) (Rep X.K) w (ev cf pa e st) Q → te σ w.H Q) (h : RdO X.K cl W w (run cf (.asg t pa) e st) D) : tAsg te (rdG X.K t) D σ w.H := by
  simp only [run] at h
  refine hte _ ((RdO.out he h).mono fun u H1 hQ => ?_)
  obtain ⟨w1, v1, st1, e1, hw1, hs1, r1, h1⟩ := hQ
  subst e1
  cases q : asgT t v1 e with
  | none => rw [q] at h1; exact h1.elim
  | some e2 =>
    rw [q] at h1
    exact ⟨w1, e, e2, v1, rfl, he.mono hw1, r1, q, fun σ' ⟨_, _, he'⟩ => h1 w1 σ' (.refl w1) hs1 he'⟩
theorem s_asg {t : Tg} (ha : L2.PE X a (rdE X.K cl W cf pa)) (hg : PG X tg (rdG X.K t)) (h1 : swapsWithSole [tg] a pos.line X.env = pure false) (h2 : swappedStores [tg] a X.env = pure none) (h3 : (assignEach [tg] X.env).map (·.2) = [assign tg X.env]) :
    L2.PS X (.Assign [tg] a pos) (rdS X.K cl W cf (.asg t pa)) := by
  refine PSimp (ps_asg ha hg h1 h2 h3) fun D σ H _ h => ?_
  obtain ⟨w, e, st, rfl, he, hs, h⟩ := h
  exact asg_rd he (fun Q q => ⟨w, e, st, rfl, he, hs, q⟩) h
theorem s_par2 {i j : Nat} {x y : Str} {qs : PXs} {px py pt : Pos} {kt k2 pt2} (hc : X.calm = true) (hN : X.N.Nodup) (hi : X.N[i]? = some x) (hj : X.N[j]? = some y) (hij : i ≠ j)
    (hx : X.env.scope.names.lookup x = some .local) (hy : X.env.scope.names.lookup y = some .local) (ha : L2.PA X [a, b] (rdA X.K cl W cf qs))
    (hw : swappedStores [.Tuple [.Name x px, .Name y py] kt pt] (.Tuple [a, b] k2 pt2) X.env = pure (some [x, y])) :
    L2.PS X (.Assign [.Tuple [.Name x px, .Name y py] kt pt] (.Tuple [a, b] k2 pt2) pos) (rdS X.K cl W cf (.par [i, j] qs)) := by
  refine PSimp (ps_par hc hN hi hj hij hx hy ha hw) fun D σ H hl h => ?_
  obtain ⟨w, e, st, rfl, he, hs, h⟩ := h
  simp only [run] at h
  have hiσ : i < σ.length := by rw [hl]; exact (List.getElem?_eq_some_iff.mp hi).1
  have hjσ : j < σ.length := by rw [hl]; exact (List.getElem?_eq_some_iff.mp hj).1
  refine ⟨w, e, st, rfl, he, hs, (RdO.out he h).mono fun us H1 hQ => ?_⟩
  obtain ⟨w1, vs, st1, e1, hw1, hs1, r1, h1⟩ := hQ
  subst e1
  rcases vs with _ | ⟨v1, _ | ⟨v2, _ | ⟨_, _⟩⟩⟩
  · exact h1.elim
  · exact h1.elim
  · obtain ⟨u1, u2, rfl, q1, q2⟩ := r1.two
    refine ⟨u1, u2, rfl, ?_⟩
    simp only [setAll] at h1
    exact h1 w1 _ (.refl w1) hs1 (((he.mono hw1).set q1 i hiσ).set q2 j (by simpa using hjσ))
  · exact h1.elim
theorem s_par3 {i j l : Nat} {x y z : Str} {qs : PXs} {px py pz pt : Pos} {kt k2 pt2} (hc : X.calm = true) (hN : X.N.Nodup) (hi : X.N[i]? = some x) (hj : X.N[j]? = some y) (hlz : X.N[l]? = some z) (hij : i ≠ j) (hil : i ≠ l) (hjl : j ≠ l)
    (hx : X.env.scope.names.lookup x = some .local) (hy : X.env.scope.names.lookup y = some .local) (hz : X.env.scope.names.lookup z = some .local) (ha : L2.PA X [a, b, c] (rdA X.K cl W cf qs))
    (hw : swappedStores [.Tuple [.Name x px, .Name y py, .Name z pz] kt pt] (.Tuple [a, b, c] k2 pt2) X.env = pure (some [x, y, z])) :
    L2.PS X (.Assign [.Tuple [.Name x px, .Name y py, .Name z pz] kt pt] (.Tuple [a, b, c] k2 pt2) pos) (rdS X.K cl W cf (.par [i, j, l] qs)) := by
  refine PSimp (ps_par3 hc hN hi hj hlz hij hil hjl hx hy hz ha hw) fun D σ H hl h => ?_
  obtain ⟨w, e, st, rfl, he, hs, h⟩ := h
  simp only [run] at h
  have hiσ : i < σ.length := by rw [hl]; exact (List.getElem?_eq_some_iff.mp hi).1
  have hjσ : j < σ.length := by rw [hl]; exact (List.getElem?_eq_some_iff.mp hj).1
  have hlσ : l < σ.length := by rw [hl]; exact (List.getElem?_eq_some_iff.mp hlz).1
  refine ⟨w, e, st, rfl, he, hs, (RdO.out he h).mono fun us H1 hQ => ?_⟩
  obtain ⟨w1, vs, st1, e1, hw1, hs1, r1, h1⟩ := hQ
  subst e1
  rcases vs with _ | ⟨v1, _ | ⟨v2, _ | ⟨v3, _ | ⟨_, _⟩⟩⟩⟩
  · exact h1.elim
  · exact h1.elim
  · exact h1.elim
  · cases r1 with
    | cons q1 rr =>
      obtain ⟨u2, u3, rfl, q2, q3⟩ := rr.two
      refine ⟨_, u2, u3, rfl, ?_⟩
      simp only [setAll] at h1
      exact h1 w1 _ (.refl w1) hs1 ((((he.mono hw1).set q1 i hiσ).set q2 j (by simpa using hjσ)).set q3 l (by simpa using hlσ))
  · exact h1.elim
theorem s_ite {tc : PT} {sa sb : List Stmt} {qa qb : PS} (hc : L2.PT X c (rdT X.K cl W cf tc)) (ha : L2.PSs X sa (rdS X.K cl W cf qa)) (hb : L2.PSs X sb (rdS X.K cl W cf qb)) : L2.PS X (.If c sa sb pos) (rdS X.K cl W cf (.ite tc qa qb)) := by
  refine PSimp (ps_if hc ha hb) fun D σ H _ h => ?_
  obtain ⟨w, e, st, rfl, he, hs, h⟩ := h
  simp only [run] at h
  refine ⟨w, e, st, rfl, he, hs, (RdO.out he h).mono fun k H1 hQ => ?_⟩
  obtain ⟨w1, v1, st1, e1, hw1, hs1, r1, h1⟩ := hQ
  subst e1
  subst r1
  cases v1 with
  | true => exact ⟨w1, e, st1, rfl, he.mono hw1, hs1, h1⟩
  | false => exact ⟨w1, e, st1, rfl, he.mono hw1, hs1, h1⟩
theorem s_sat {o value : Expr} {C f : Str} {pv : PX} {pos' : Pos} (ho : L2.PE X o (rdE X.K cl W cf pa)) (hv : L2.PE X value (rdE X.K cl W cf pv)) (hc : ∀ D, PySem.W.nsIn X.K mainGlobals C = some (some (.ref D)) → Cls X.K D ∧ NoAttr X.K D f)
    (hsw : swapsWith value (some (.Attribute o f pos')) pos.line X.env = pure false) : L2.PS X (.Assign [.Attribute o f pos'] value pos) (rdS X.K cl W cf (.sat pa C f pv)) := by
  refine PSimp (ps_fld ho hv hsw) fun D σ H _ h => ?_
  obtain ⟨w, e, st, rfl, he, hs, h⟩ := h
  simp only [run] at h
  refine ⟨w, e, st, rfl, he, hs, (RdO.out he h).mono fun y H1 hQ => ?_⟩
  obtain ⟨w1, v1, st1, e1, hw1, hs1, r1, h1⟩ := hQ
  subst e1
  refine ⟨w1, e, st1, rfl, he.mono hw1, hs1, (RdO.out (he.mono hw1) h1).mono fun x H2 hQ => ?_⟩
  obtain ⟨w2, v2, st2, e2, hw2, hs2, r2, h2⟩ := hQ
  subst e2
  split at h2
  · rename_i st3 hq
    cases v2 with
    | ref l =>
      simp only [satV] at hq
      split at hq
      · rename_i E fs hcell
        simp only [Option.ite_none_right_eq_some, Option.some.injEq] at hq
        obtain ⟨⟨rfl, hlen⟩, rfl⟩ := hq
        obtain ⟨l', a, Da, dx, us, e3, rfl, est, em, k1, k2, k3⟩ := obj_at (C := E) (fs := fs) hs2 r2 (by simp only [objAt, hcell])
        cases e3
        obtain ⟨c1, c2⟩ := hc Da k1
        have hw := Wd.ow_le (w := w2) (o := .ins Da dx (putF f y us)) (List.mem_of_getElem? em) (fun _ _ z => by rw [k2] at z; cases z)
        refine ⟨a, Da, dx, us, rfl, k2, c1, c2, by rw [← k3.length]; exact hlen, ?_⟩
        exact h2 (w2.ow a (.ins Da dx (putF f y us))) σ hw (hs2.ow em ⟨Da, dx, _, k1, upd_same, RepF.put ((r1.mono hw2).mono hw) (k3.mono hw)⟩) (((he.mono hw1).mono hw2).mono hw)
      · cases hq
    | _ => simp [satV] at hq
  · exact h2.elim
theorem s_dstT {o value : Expr} {es : List Expr} {ks : PXs} {kt : Nat} {pv : PX} {tpos pos' : Pos} (hu : X.A.units + 1 < cLine) (ho : L2.PE X o (rdE X.K cl W cf pa)) (hk : L2.PA X es (rdA X.K cl W cf ks)) (hv : L2.PE X value (rdE X.K cl W cf pv))
    (hsw : swapsWith value (some (.Subscript o (.Tuple es kt tpos) pos')) pos.line X.env = pure false) : L2.PS X (.Assign [.Subscript o (.Tuple es kt tpos) pos'] value pos) (rdS X.K cl W cf (.dst true pa ks pv)) := by
  refine PSimp (ps_dput hu ho (pe_tup hk) hv hsw) fun D σ H _ h => ?_
  obtain ⟨w, e, st, rfl, he, hs, h⟩ := h
  simp only [run] at h
  refine ⟨w, e, st, rfl, he, hs, (RdO.out he h).mono fun y H1 hQ => ?_⟩
  obtain ⟨w1, v1, st1, e1, hw1, hs1, r1, h1⟩ := hQ
  subst e1
  refine ⟨w1, e, st1, rfl, he.mono hw1, hs1, (RdO.out (he.mono hw1) h1).mono fun x H2 hQ => ?_⟩
  obtain ⟨w2, v2, st2, e2, hw2, hs2, r2, h2⟩ := hQ
  subst e2
  have he2 := (he.mono hw1).mono hw2
  refine ⟨w2, e, st2, rfl, he2, hs2, (RdO.out he2 h2).mono fun us H3 hQ => ?_⟩
  obtain ⟨w3, vs, st3, e3, hw3, hs3, r3, h3⟩ := hQ
  subst e3
  cases hkk : keyV true vs with
  | none => rw [hkk] at h3; exact h3.elim
  | some k =>
    rw [hkk] at h3
    simp only [Res.ofO, Res.out] at h3
    obtain ⟨hky, hl⟩ := key_T hkk
    refine ⟨by rw [← r3.length, sizeLine_eq]; omega, fun p hp => ?_⟩
    have hw4 := Wd.put_le (o := .tup us) hp
    have hs4 := hs3.put (o := .tup us) hp
    split at h3
    · rename_i st5 hq
      obtain ⟨l, kvs, rfl, hd, hz, rfl⟩ := dset_inv hq
      obtain ⟨l', a, e5, rfl, _, em, ok⟩ := dct_at hs4 ((r2.mono hw3).mono hw4) hd
      cases e5
      obtain ⟨ud, hH, rd⟩ := ok
      have hb : (w3.put p (.tup us)).H p = some (.tup ((k.map toK).map kV)) := by rw [← kys_rep r3 hky]; exact upd_same
      have hw5 := Wd.ow_le (w := w3.put p (.tup us)) (o := .dT (putK ud (k.map toK) y)) (m_mem em) (fun _ _ z => by rw [hH] at z; cases z)
      refine ⟨a, _, rfl, DPut.t hH hb (by rw [← rd.length, sizeLine_eq]; exact hz), ?_⟩
      exact h3 ((w3.put p (.tup us)).ow a (.dT (putK ud (k.map toK) y))) σ (hw4.trans hw5) (hs4.ow em ⟨_, upd_same, RepD.put k ((((r1.mono hw2).mono hw3).mono hw4).mono hw5) (rd.mono hw5)⟩) (((he2.mono hw3).mono hw4).mono hw5)
    · exact h3.elim
theorem s_dstF {o i value : Expr} {pk pv : PX} {pos' : Pos} (hu : X.A.units + 1 < cLine) (ho : L2.PE X o (rdE X.K cl W cf pa)) (hk : L2.PE X i (rdE X.K cl W cf pk)) (hv : L2.PE X value (rdE X.K cl W cf pv))
    (hsw : swapsWith value (some (.Subscript o i pos')) pos.line X.env = pure false) : L2.PS X (.Assign [.Subscript o i pos'] value pos) (rdS X.K cl W cf (.dst false pa (.cons pk .nil) pv)) := by
  refine PSimp (ps_dput hu ho hk hv hsw) fun D σ H _ h => ?_
  obtain ⟨w, e, st, rfl, he, hs, h⟩ := h
  simp only [run] at h
  refine ⟨w, e, st, rfl, he, hs, (RdO.out he h).mono fun y H1 hQ => ?_⟩
  obtain ⟨w1, v1, st1, e1, hw1, hs1, r1, h1⟩ := hQ
  subst e1
  refine ⟨w1, e, st1, rfl, he.mono hw1, hs1, (RdO.out (he.mono hw1) h1).mono fun x H2 hQ => ?_⟩
  obtain ⟨w2, v2, st2, e2, hw2, hs2, r2, h2⟩ := hQ
  subst e2
  have he2 := (he.mono hw1).mono hw2
  have evs1 : evs cf (.cons pk .nil) e st2 = (ev cf pk e st2).bind fun x st => .ok [x] st := by simp only [evs, Res.bind_ok]
  have out1 : ∀ (r : Res PV) (f : List PV → Sto → Out), ((r.bind fun x st => Res.ok [x] st).out e f) = r.out e fun x st => f [x] st := fun r f => by cases r <;> rfl
  rw [evs1, out1] at h2
  refine ⟨w2, e, st2, rfl, he2, hs2, (RdO.out he2 h2).mono fun u3 H3 hQ => ?_⟩
  obtain ⟨w3, x3, st3, e3, hw3, hs3, r3, h3⟩ := hQ
  subst e3
  cases hkk : keyV false [x3] with
  | none => rw [hkk] at h3; exact h3.elim
  | some k =>
    rw [hkk] at h3
    simp only [Res.ofO, Res.out] at h3
    obtain ⟨_, k1, e4, rfl, hky⟩ := key_F hkk
    cases e4
    split at h3
    · rename_i st5 hq
      obtain ⟨l, kvs, rfl, hd, hz, rfl⟩ := dset_inv hq
      obtain ⟨l', a, e5, rfl, _, em, ok⟩ := dct_at hs3 (r2.mono hw3) hd
      cases e5
      obtain ⟨ud, hH, rd⟩ := ok
      rw [ky_rep r3 hky]
      have hw5 := Wd.ow_le (w := w3) (o := .dK (putK ud (toK k1) y)) (m_mem em) (fun _ _ z => by rw [hH] at z; cases z)
      have hlen : ud.length < sizeLine := by
        have := rd.length
        simp only [lone, List.length_map] at this
        rw [← this, sizeLine_eq]; exact hz
      refine ⟨a, _, rfl, DPut.k hH hlen, ?_⟩
      have hp := RepD.put [k1] (((r1.mono hw2).mono hw3).mono hw5) (rd.mono hw5)
      rw [List.map_cons, List.map_nil, lone_put] at hp
      exact h3 (w3.ow a (.dK (putK ud (toK k1) y))) σ hw5 (hs3.ow em ⟨_, upd_same, hp⟩) ((he2.mono hw3).mono hw5)
    · exact h3.elim
/-- d[k] = x, k a tuple of numbers -/
theorem s_dsv {o i value : Expr} {pk pv : PX} {pos' : Pos} (hu : X.A.units + 1 < cLine) (ho : L2.PE X o (rdE X.K cl W cf pa)) (hk : L2.PE X i (rdE X.K cl W cf pk)) (hv : L2.PE X value (rdE X.K cl W cf pv))
    (hsw : swapsWith value (some (.Subscript o i pos')) pos.line X.env = pure false) : L2.PS X (.Assign [.Subscript o i pos'] value pos) (rdS X.K cl W cf (.dsv pa pk pv)) := by
  refine PSimp (ps_dput hu ho hk hv hsw) fun D σ H _ h => ?_
  obtain ⟨w, e, st, rfl, he, hs, h⟩ := h
  simp only [run] at h
  refine ⟨w, e, st, rfl, he, hs, (RdO.out he h).mono fun y H1 hQ => ?_⟩
  obtain ⟨w1, v1, st1, e1, hw1, hs1, r1, h1⟩ := hQ
  subst e1
  refine ⟨w1, e, st1, rfl, he.mono hw1, hs1, (RdO.out (he.mono hw1) h1).mono fun x H2 hQ => ?_⟩
  obtain ⟨w2, v2, st2, e2, hw2, hs2, r2, h2⟩ := hQ
  subst e2
  have he2 := (he.mono hw1).mono hw2
  refine ⟨w2, e, st2, rfl, he2, hs2, (RdO.out he2 h2).mono fun u3 H3 hQ => ?_⟩
  obtain ⟨w3, x3, st3, e3, hw3, hs3, r3, h3⟩ := hQ
  subst e3
  cases hkk : tupK x3 with
  | none => rw [hkk] at h3; exact h3.elim
  | some k =>
    rw [hkk] at h3
    simp only [Res.ofO, Res.out] at h3
    obtain ⟨b, rfl, hb⟩ := key_I r3 hkk
    split at h3
    · rename_i st5 hq
      obtain ⟨l, kvs, rfl, hd, hz, rfl⟩ := dset_inv hq
      obtain ⟨l', a, e5, rfl, _, em, ok⟩ := dct_at hs3 (r2.mono hw3) hd
      cases e5
      obtain ⟨ud, hH, rd⟩ := ok
      have hw5 := Wd.ow_le (w := w3) (o := .dT (putK ud (k.map toK) y)) (m_mem em) (fun _ _ z => by rw [hH] at z; cases z)
      refine ⟨a, _, rfl, DPut.t hH hb (by rw [← rd.length, sizeLine_eq]; exact hz), ?_⟩
      exact h3 (w3.ow a (.dT (putK ud (k.map toK) y))) σ hw5 (hs3.ow em ⟨_, upd_same, RepD.put k (((r1.mono hw2).mono hw3).mono hw5) (rd.mono hw5)⟩) ((he2.mono hw3).mono hw5)
    · exact h3.elim
/-- o[i] = v, read -/
theorem sto_rd {po pi : PX} {w : Wd} {e : Env} {st : Sto} {σ : St} {v : PV} {u : V} {f : Sto → Out} {D : Ends} {Q : St → Hp → Prop} (he : EnvOk X.K w e σ) (hs : StOk X.K w st) (rv : Rep X.K w v u) (h : RdO X.K cl W w (sto1 cf po pi e v st f) D)
    (hq : ∀ (w' : Wd) (st' : Sto), w.le w' → StOk X.K w' st' → RdO X.K cl W w' (f st') D → Q σ w'.H) : gSub (rdE X.K cl W cf po) (rdE X.K cl W cf pi) rSetL u σ w.H Q := by
  unfold sto1 at h
  refine ⟨w, e, st, rfl, he, hs, (RdO.out he h).mono fun x H1 hQ => ?_⟩
  obtain ⟨w1, v1, st1, e1, hw1, hs1, r1, h1⟩ := hQ
  subst e1
  refine ⟨w1, e, st1, rfl, he.mono hw1, hs1, (RdO.out (he.mono hw1) h1).mono fun y H2 hQ => ?_⟩
  obtain ⟨w2, v2, st2, e2, hw2, hs2, r2, h2⟩ := hQ
  subst e2
  split at h2
  · rename_i st3 hq3
    unfold setI at hq3
    split at hq3
    · rename_i l k
      split at hq3
      · rename_i xs hcell
        rw [Option.map_eq_some_iff] at hq3
        obtain ⟨j, hj, rfl⟩ := hq3
        have r1' := r1.mono hw2
        cases r1' with
        | ref em =>
          cases r2.int_inv
          obtain ⟨c, hc, ok⟩ := hs2.cell _ _ em
          rw [hcell] at hc
          cases hc
          obtain ⟨us, hus, rus⟩ := ok
          have rv2 := (rv.mono hw1).mono hw2
          have hset : Reps X.K w2 (xs.set j v) (us.set j u) := rus.set j rv2
          refine ⟨_, us, _, j, rfl, rfl, hus, by rw [← rus.length]; exact hj, ?_⟩
          exact hq (w2.lw _ (us.set j u)) _ ((hw1.trans hw2).trans (Wd.lw_le (m_mem em) hus)) (hs2.lw em hus hset) (RdO.up h2 (Wd.lw_le (m_mem em) hus))
        | gone em =>
          have := hs2.gone _ em
          rw [hcell] at this
          cases this
      · cases hq3
    · cases hq3
  · exact h2.elim
theorem s_st1 {o i value : Expr} {po pi pv : PX} {pos' : Pos} (ho : L2.PE X o (rdE X.K cl W cf po)) (hi : L2.PE X i (rdE X.K cl W cf pi)) (hv : L2.PE X value (rdE X.K cl W cf pv)) (hix : plainIx i = true)
    (h1 : swapsWithSole [.Subscript o i pos'] value pos.line X.env = pure false) (h2 : swappedStores [.Subscript o i pos'] value X.env = pure none) : L2.PS X (.Assign [.Subscript o i pos'] value pos) (rdS X.K cl W cf (.st1 po pi pv)) := by
  have hg : PG X (.Subscript o i pos') (gSub (rdE X.K cl W cf po) (rdE X.K cl W cf pi) rSetL) := pg_sub ho hi set_list (fun v => by cases i <;> first | rfl | (simp [plainIx] at hix))
  refine PSimp (ps_asg hv hg h1 h2 rfl) fun D σ H _ h => ?_
  obtain ⟨w, e, st, rfl, he, hs, h⟩ := h
  simp only [run] at h
  refine ⟨w, e, st, rfl, he, hs, (RdO.out he h).mono fun u H1 hQ => ?_⟩
  obtain ⟨w1, v1, st1, e1, hw1, hs1, r1, h1⟩ := hQ
  subst e1
  exact sto_rd (he.mono hw1) hs1 r1 h1 fun w' st' hw hs' h' => h' w' σ (.refl w') hs' ((he.mono hw1).mono hw)
theorem s_st2 {o i p j value : Expr} {po pi pp pj pv : PX} {kt : Nat} {q1 q2 q3 : Pos} (hc : X.calm = true) (ho : L2.PE X o (rdE X.K cl W cf po)) (hi : L2.PE X i (rdE X.K cl W cf pi)) (hp : L2.PE X p (rdE X.K cl W cf pp)) (hj : L2.PE X j (rdE X.K cl W cf pj)) (hv : L2.PE X value (rdE X.K cl W cf pv))
    (hix : plainIx i = true) (hjx : plainIx j = true) (h1 : swapsWithSole [.Tuple [.Subscript o i q1, .Subscript p j q2] kt q3] value pos.line X.env = pure false) (h2 : swappedStores [.Tuple [.Subscript o i q1, .Subscript p j q2] kt q3] value X.env = pure none) :
    L2.PS X (.Assign [.Tuple [.Subscript o i q1, .Subscript p j q2] kt q3] value pos) (rdS X.K cl W cf (.st2 po pi pp pj pv)) := by
  have g1 : PG X (.Subscript o i q1) (gSub (rdE X.K cl W cf po) (rdE X.K cl W cf pi) rSetL) := pg_sub ho hi set_list (fun v => by cases i <;> first | rfl | (simp [plainIx] at hix))
  have g2 : PG X (.Subscript p j q2) (gSub (rdE X.K cl W cf pp) (rdE X.K cl W cf pj) rSetL) := pg_sub hp hj set_list (fun v => by cases j <;> first | rfl | (simp [plainIx] at hjx))
  refine PSimp (ps_asg hv (pg_tup (n := 2) hc (pgs_cons g1 (pgs_cons g2 pgs_nil)) rfl rfl) h1 h2 rfl) fun D σ H _ h => ?_
  obtain ⟨w, e, st, rfl, he, hs, h⟩ := h
  simp only [run] at h
  refine ⟨w, e, st, rfl, he, hs, (RdO.out he h).mono fun u H1 hQ => ?_⟩
  obtain ⟨w1, v1, st1, e1, hw1, hs1, r1, h1⟩ := hQ
  subst e1
  split at h1
  · rename_i y z
    cases r1 with
    | tup hq rr =>
      obtain ⟨u1, u2, rfl, r1, r2⟩ := rr.two
      refine ⟨_, _, rfl, hq.sq, rfl, _, _, rfl, ?_⟩
      refine sto_rd (he.mono hw1) hs1 r1 h1 fun w2 st2 hw2 hs2 h2 => ⟨_, _, rfl, ?_⟩
      exact sto_rd ((he.mono hw1).mono hw2) hs2 (r2.mono hw2) h2 fun w3 st3 hw3 hs3 h3 => ⟨rfl, h3 w3 σ (.refl w3) hs3 (((he.mono hw1).mono hw2).mono hw3)⟩
  · exact h1.elim
theorem s_rse {x m : Str} {j c : Nat} {C : Addr} {p p2 pos' : Pos} (hc : X.calm = true) (tk : Takes X W) (hm : X.mg x = some (.ref C)) (hcl : cl c = .ref C) (E : ExcAt X.K x C) (hg : Gl X x) (hdb : (x == ("__debug__" : Str)) = false) :
    L2.PS X (.Raise (some (.Call (.Name x p) [.Constant (.str m) j p2] [] pos)) none pos') (rdS X.K cl W cf (.rse c)) := by
  refine PSimp (ps_raise hc tk (pmk_own PySem.F.excBase_ValueError E.ex hm E.kp (raises_own E.sub E.ty) hg hdb)) fun D σ H _ h => ?_
  obtain ⟨w, e, st, rfl, he, hs, h⟩ := h
  simp only [run] at h
  have := h w σ (.refl w) hs he
  rw [hcl] at this
  exact this
theorem s_tryO {x : Str} {d : Nat} {ks : List Nat} {b s : PS} {body suite : List Stmt} {b₀ : Stmt} {np pos' : Pos} (hs : X.stack = X.env :: X.outer) (hf : X.env.frame = some X.env.locals) (hn : Names X x (cl d)) (tk : Takes X W) (hx : ∀ c ∈ ks, PySem.W.exmOne X.K (cl c) (cl d) = some (catches c d))
    (hb : ∀ (W' : WX) (pn : List (Addr × Obj)) (xe : Value → Shared → Prop), Takes (X.tr pn xe) W' → PassesOwn (model X.prog X.w) X.A X.env xe → L2.PSs (X.tr pn xe) body (rdS X.K cl W' cf b))
    (hsu : ∀ (a : Addr) (pn : List (Addr × Obj)), L2.PSs (X.suite a pn) (b₀ :: suite) (rdS X.K cl W cf s)) :
    L2.PS X (.Try body [.ExceptHandler (some (.Name x np)) none (b₀ :: suite) pos'] [] [] pos) (rdS X.K cl W cf (.tryO b ks d s)) := by
  refine PSimp (ps_try_only (ts := fun _ _ _ => rdS X.K cl W cf s) (tb := fun W' => rdS X.K cl W' cf b) hs hf hn tk hb (fun a oe cls dd pn _ _ => hsu a _)) fun D σ H _ h => ?_
  obtain ⟨w, e, st, rfl, he, hs, h⟩ := h
  simp only [run] at h
  refine ⟨w, e, st, rfl, he, hs, ?_⟩
  cases q : run cf b e st with
  | next e1 st1 => rw [q] at h; exact h
  | brk e1 st1 => rw [q] at h; exact h
  | cnt e1 st1 => rw [q] at h; exact h
  | ret v st1 => rw [q] at h; exact h
  | stuck => rw [q] at h; exact h
  | exc c e1 st1 =>
    rw [q] at h
    simp only at h
    split at h
    · rename_i hk
      rw [decide_eq_true_eq] at hk
      intro w' σ' hw hs' he'
      refine ⟨catches c d, hx c hk, fun z a _ => ?_, fun z => ?_⟩
      · rw [z] at h
        exact ⟨w', e1, st1, rfl, he', hs', RdO.up h hw⟩
      · rw [z] at h
        exact h w' σ' hw hs' he'
    · exact h.elim
/-- what a suite that asks for the word is to show -/
noncomputable def tW (K : PySem.W.Frag) (ie : Nat) (j : Option Nat) (c : Nat) (a : Addr) (st : Sto) : TS := fun D σ H => ∃ σ1 : St, σ = σ1.set ie (some (.ref a)) ∧ match j with
  | none => ∀ H', Ext K st H H' → D.rt (.str (wordS c)) H'
  | some j => ∀ H', Ext K st H H' → j < σ.length → D.nx (σ.set j (some (.str (wordS c)))) H'
theorem s_tryW {x n : Str} {d ie wi : Nat} {j : Option Nat} {ks : List Nat} {b : PS} {body : List Stmt} {su : Stmt} {np pos' : Pos} (hs : X.stack = X.env :: X.outer) (hf : X.env.frame = some X.env.locals) (hN : X.N.Nodup) (hi : X.N[ie]? = some n) (hln : X.env.kindOf n = some .local)
    (hn : Names X x (cl d)) (tk : Takes X W) (hx : ∀ c ∈ ks, PySem.W.exmOne X.K (cl c) (cl d) = some (catches c d))
    (hb : ∀ (W' : WX) (pn : List (Addr × Obj)) (xe : Value → Shared → Prop), Takes (X.tr pn xe) W' → PassesOwn (model X.prog X.w) X.A X.env xe → L2.PSs (X.tr pn xe) body (rdS X.K cl W' cf b))
    (hsu : ∀ (a : Addr) (oe : Obj) (c : Nat) (pn : List (Addr × Obj)) (st : Sto), c ∈ ks → Zc (cl c) none oe → (∃ vs, oe.data = .fields vs) → L2.PSs (X.suite a ((a, oe) :: pn)) [su] (tW X.K ie j c a st)) :
    L2.PS X (.Try body [.ExceptHandler (some (.Name x np)) (some n) [su] pos'] [] [] pos) (rdS X.K cl W cf (.tryW b ks d ie wi j)) := by
  refine PSimp (ps_try_as (i := ie) (ts := fun a cls dd D σ H => dd = none ∧ ∃ c st, c ∈ ks ∧ cls = cl c ∧ tW X.K ie j c a st D σ H) (tb := fun W' => rdS X.K cl W' cf b) hs hf hN hi hln hn tk hb (fun a oe cls dd pn hz hfl => ⟨fun pins s σ H D I hw => ?_⟩)) fun D σ H _ h => ?_
  · obtain ⟨rfl, c, st, hc, rfl, hw⟩ := hw
    exact (hsu a oe c pn st hc hz hfl).run pins s σ H D I hw
  · obtain ⟨w, e, st, rfl, he, hs, h⟩ := h
    simp only [run] at h
    refine ⟨w, e, st, rfl, he, hs, ?_⟩
    cases q : run cf b e st with
    | next e1 st1 => rw [q] at h; exact h
    | brk e1 st1 => rw [q] at h; exact h
    | cnt e1 st1 => rw [q] at h; exact h
    | ret v st1 => rw [q] at h; exact h
    | stuck => rw [q] at h; exact h
    | exc c e1 st1 =>
      rw [q] at h
      simp only at h
      split at h
      · rename_i hk
        rw [Bool.and_eq_true, decide_eq_true_eq] at hk
        intro w' σ' hw hs' he'
        refine ⟨catches c d, hx c hk.1, fun z a _ => ⟨rfl, c, st1, hk.1, rfl, σ', rfl, ?_⟩, fun z => ?_⟩
        · cases j with
          | none =>
            intro H' x
            obtain ⟨w2, l2, s2, rfl⟩ := x w' rfl hs'
            exact h w2 _ (hw.trans l2) s2 (.str (wordS c) (by unfold wordS; split <;> decide +kernel))
          | some j =>
            intro H' x hj
            obtain ⟨w2, l2, s2, rfl⟩ := x w' rfl hs'
            refine h w2 _ (hw.trans l2) s2 ?_
            rw [List.length_set] at hj
            intro k v hv
            by_cases hk : ie = k
            · subst hk
              rw [List.getElem?_set] at hv
              simp only [ite_true] at hv
              split at hv
              · cases hv
              · cases hv
            · rw [List.getElem?_set_ne hk] at hv ⊢
              have hr : Rep X.K w2 (.str (wordT c)) (.str (wordS c)) := .str (wordS c) (by unfold wordS; split <;> decide +kernel)
              obtain ⟨u, u1, u2⟩ := ((he'.mono l2).set hr j hj) k v hv
              refine ⟨u, ?_, u2⟩
              by_cases hjk : j = k
              · subst hjk
                rw [List.getElem?_set_self hj] at u1
                rw [List.getElem?_set_self (by rw [List.length_set]; exact hj)]
                exact u1
              · rw [List.getElem?_set_ne hjk] at u1 ⊢
                rw [List.getElem?_set_ne hk]
                exact u1
        · rw [z] at hk
          cases hk.2
      · exact h.elim
/-- the suites: the word is told, or kept -/
theorem su_ret {Y : Cx} {a : Addr} {oe : Obj} {c ie : Nat} {st : Sto} {x n : Str} {q p2 pos sp : Pos} (WF : WordF Y.K Y.mg cl x) (h1 : 1 ≤ c) (h7 : c ≤ 7) (hp : (a, oe) ∈ Y.pn) (hz : Zc (cl c) none oe) (hf : ∃ vs, oe.data = .fields vs) (hr : L2H.RoomH 1 Y.A)
    (hg : Gl Y x) (hdb : (x == ("__debug__" : Str)) = false) (hN : Y.N[ie]? = some n) (hv : Vis Y.env.scope n) (hd : (n == ("__debug__" : Str)) = false) (hcd : (n == ("__classdict__" : Str)) = false) :
    L2.PSs Y [.Return (some (.Call (.Name x q) [.Name n p2] [] pos)) sp] (tW Y.K ie none c a st) := by
  refine ⟨fun pins s σ H D I hw => ?_⟩
  obtain ⟨σ1, rfl, hw⟩ := hw
  have hl := I.len
  rw [List.length_set] at hl
  have hi : ie < σ1.length := by rw [hl]; exact (List.getElem?_eq_some_iff.mp hN).1
  exact (pss_cons (ps_ret (pe_word (st := st) WF h1 h7 hp hz hf hr hg hdb hN hv hd hcd)) pss_nil).run pins s _ H D I ⟨List.getElem?_set_self hi, hw⟩
theorem su_set {Y : Cx} {a : Addr} {oe : Obj} {c ie j : Nat} {st : Sto} {x n t : Str} {q p2 pos sp tp : Pos} (WF : WordF Y.K Y.mg cl x) (h1 : 1 ≤ c) (h7 : c ≤ 7) (hp : (a, oe) ∈ Y.pn) (hz : Zc (cl c) none oe) (hf : ∃ vs, oe.data = .fields vs) (hr : L2H.RoomH 1 Y.A)
    (hg : Gl Y x) (hdb : (x == ("__debug__" : Str)) = false) (hnd : Y.N.Nodup) (hN : Y.N[ie]? = some n) (hv : Vis Y.env.scope n) (hd : (n == ("__debug__" : Str)) = false) (hcd : (n == ("__classdict__" : Str)) = false)
    (hj : Y.N[j]? = some t) (hl : Y.env.scope.names.lookup t = some .local) :
    L2.PSs Y [.Assign [.Name t tp] (.Call (.Name x q) [.Name n p2] [] pos) sp] (tW Y.K ie (some j) c a st) := by
  refine ⟨fun pins s σ H D I hw => ?_⟩
  obtain ⟨σ1, rfl, hw⟩ := hw
  have hlen := I.len
  rw [List.length_set] at hlen
  have hi : ie < σ1.length := by rw [hlen]; exact (List.getElem?_eq_some_iff.mp hN).1
  have hjl : j < (σ1.set ie (some (.ref a))).length := by rw [List.length_set, hlen]; exact (List.getElem?_eq_some_iff.mp hj).1
  exact (pss_cons (ps_set hnd hj (.inl hl) (pe_word (st := st) WF h1 h7 hp hz hf hr hg hdb hN hv hd hcd) rfl (.inr hl)) pss_nil).run pins s _ H D I ⟨List.getElem?_set_self hi, fun H' x => hw H' x hjl⟩
theorem forL_drop {f : PV → Env → Sto → Out} {items : List PV} {i : Nat} {v : PV} (h : items[i]? = some v) (e : Env) (st : Sto) :
    forL f (items.drop i) e st = match f v e st with
      | .next e1 st1 => forL f (items.drop (i + 1)) e1 st1
      | .cnt e1 st1 => forL f (items.drop (i + 1)) e1 st1
      | .brk e1 st1 => .next e1 st1
      | .ret v st1 => .ret v st1
      | .exc c e1 st1 => .exc c e1 st1
      | .stuck => .stuck := by
  obtain ⟨hi, q⟩ := List.getElem?_eq_some_iff.mp h
  rw [List.drop_eq_getElem_cons hi, q]
  rfl
theorem s_for {t : Tg} {s : Src} {body : List Stmt} {q : PS} (hp : PassesOwn (model X.prog X.w) X.A X.env X.xe) (hc : X.calm = true) (hi : PI X tg iter (rdI X.K cl W cf s)) (hg : PG X tg (rdG X.K t)) (hb : L2.PSs X body (rdS X.K cl W cf q))
    (hs : ∀ x, foldedSetIterable iter X.env x = pure x) : L2.PS X (.For tg iter body [] pos) (rdS X.K cl W cf (.fr t s q)) := by
  refine PSimp (ps_for hp hc hi hg hb hs) fun D σ H _ h => ?_
  obtain ⟨w, e, st, rfl, he, hs, h⟩ := h
  simp only [run] at h
  refine ⟨w, e, st, rfl, he, hs, (RdO.out (R := IsIt X.K) he h).mono fun J H1 hQ => ?_⟩
  obtain ⟨w1, items, st1, e1, hw1, hs1, hJ, h1⟩ := hQ
  subst e1
  generalize hf : (fun (x : PV) (e1 : Env) (st2 : Sto) => match asgT t x e1 with
      | none => Out.stuck
      | some e2 => run cf q e2 st2) = f at h1
  let Wi : Nat → St → Hp → Prop := fun i σ H => i ≤ items.length ∧ ∃ (w2 : Wd) (e2 : Env) (st2 : Sto), w2.H = H ∧ w1.le w2 ∧ EnvOk X.K w2 e2 σ ∧ StOk X.K w2 st2 ∧ RdO X.K cl W w2 (forL f (items.drop i) e2 st2) D
  refine ⟨fun i m σ H => m = items.length - i ∧ Wi i σ H, ⟨items.length, by omega, Nat.zero_le _, w1, e, st1, rfl, .refl w1, he.mono hw1, hs1, h1⟩, ?_⟩
  intro i m σ H ⟨hm, hi, w2, e2, st2, q2, hw2, he2, hs2, h2⟩
  subst q2
  obtain ⟨go, stop⟩ := hJ w2 st2 hw2 hs2
  by_cases hin : i = items.length
  · subst hin
    refine .inl ⟨stop, ?_⟩
    rw [List.drop_length] at h2
    exact h2 w2 σ (.refl w2) hs2 he2
  · have hlt : i < items.length := by omega
    obtain ⟨hgo, hy⟩ := go i hlt
    refine .inr ⟨hgo, Wi (i + 1), fun σ' H' z => ⟨items.length - (i + 1), by omega, rfl, z⟩, fun x H' hyx => ?_⟩
    obtain ⟨w3, v, e3, hw3, hs3, hv, rv⟩ := hy x H' hyx
    subst e3
    rw [forL_drop hv] at h2
    cases qa : asgT t v e2 with
    | none =>
      have z : f v e2 st2 = .stuck := by rw [← hf]; simp only [qa]
      rw [z] at h2
      exact h2.elim
    | some e4 =>
      have z : f v e2 st2 = run cf q e4 st2 := by rw [← hf]; simp only [qa]
      rw [z] at h2
      refine ⟨w3, e2, e4, v, rfl, he2.mono hw3, rv, qa, fun σ2 ⟨_, _, he4⟩ => ⟨w3, e4, st2, rfl, he4, hs3, ?_⟩⟩
      have hww := hw2.trans hw3
      cases qr : run cf q e4 st2 with
      | next e5 st5 =>
        rw [qr] at h2
        exact fun w5 σ5 k1 k2 k3 => ⟨hlt, w5, e5, st5, rfl, hww.trans k1, k3, k2, RdO.up h2 (hw3.trans k1)⟩
      | cnt e5 st5 =>
        rw [qr] at h2
        exact fun w5 σ5 k1 k2 k3 => ⟨hlt, w5, e5, st5, rfl, hww.trans k1, k3, k2, RdO.up h2 (hw3.trans k1)⟩
      | brk e5 st5 =>
        rw [qr] at h2
        exact fun w5 σ5 k1 k2 k3 => h2 w5 σ5 (hw3.trans k1) k2 k3
      | ret v5 st5 =>
        rw [qr] at h2
        exact fun w5 u k1 k2 k3 => h2 w5 u (hw3.trans k1) k2 k3
      | exc c e5 st5 =>
        rw [qr] at h2
        exact fun w5 σ5 k1 k2 k3 => h2 w5 σ5 (hw3.trans k1) k2 k3
      | stuck => rw [qr] at h2; exact h2
theorem s_wh {tc : PT} {body : List Stmt} {q : PS} (hp : PassesOwn (model X.prog X.w) X.A X.env X.xe) (hc : L2.PT X c (rdT X.K cl W cf tc)) (hb : L2.PSs X body (rdS X.K cl W cf q)) : L2.PS X (.While c body [] pos) (rdS X.K cl W cf (.wh tc q)) := by
  refine PSimp (ps_while hp hc hb) fun D σ H _ h => ?_
  obtain ⟨w, e, st, rfl, he, hs, h⟩ := h
  simp only [run] at h
  let Wi : Nat → St → Hp → Prop := fun m σ H => ∃ (w2 : Wd) (e2 : Env) (st2 : Sto), w2.H = H ∧ EnvOk X.K w2 e2 σ ∧ StOk X.K w2 st2 ∧ RdO X.K cl W w2 (whL (fun e1 st1 => evT cf tc e1 st1) (fun e1 st1 => run cf q e1 st1) m e2 st2) D
  refine ⟨Wi, ⟨WH, w, e, st, rfl, he, hs, h⟩, ?_⟩
  intro m σ H ⟨w2, e2, st2, q2, he2, hs2, h2⟩
  subst q2
  cases m with
  | zero => exact h2.elim
  | succ m =>
    simp only [whL] at h2
    refine ⟨w2, e2, st2, rfl, he2, hs2, (RdO.out he2 h2).mono fun k H1 hQ => ?_⟩
    obtain ⟨w3, v3, st3, e3, hw3, hs3, r3, h3⟩ := hQ
    subst e3
    subst r3
    cases v3 with
    | false => exact h3 w3 σ (.refl w3) hs3 (he2.mono hw3)
    | true =>
      refine ⟨Wi m, fun σ' H' z => ⟨m, Nat.lt_succ_self m, z⟩, w3, e2, st3, rfl, he2.mono hw3, hs3, ?_⟩
      simp only [if_true] at h3
      cases qr : run cf q e2 st3 with
      | next e5 st5 =>
        rw [qr] at h3
        exact fun w5 σ5 k1 k2 k3 => ⟨w5, e5, st5, rfl, k3, k2, RdO.up h3 k1⟩
      | cnt e5 st5 =>
        rw [qr] at h3
        exact fun w5 σ5 k1 k2 k3 => ⟨w5, e5, st5, rfl, k3, k2, RdO.up h3 k1⟩
      | brk e5 st5 =>
        rw [qr] at h3
        exact fun w5 σ5 k1 k2 k3 => h3 w5 σ5 k1 k2 k3
      | ret v5 st5 =>
        rw [qr] at h3
        exact fun w5 u k1 k2 k3 => h3 w5 u k1 k2 k3
      | exc c e5 st5 =>
        rw [qr] at h3
        exact fun w5 σ5 k1 k2 k3 => h3 w5 σ5 k1 k2 k3
      | stuck => rw [qr] at h3; exact h3
end

/-! ### the checker -/
noncomputable def notComp : Expr → Bool
  | .ListComp .. => false
  | .SetComp .. => false
  | .DictComp .. => false
  | _ => true
theorem not_comp {a : Expr} {t : Option Expr} {l : Nat} {env : PySem.Env} (h : notComp a = true) : swapsWith a t l env = pure false := by
  cases a <;> first | rfl | (simp [notComp] at h)
noncomputable def isTup : Expr → Bool
  | .Tuple .. => true
  | _ => false
/-- whether name = [..] is stored within the comprehension -/
noncomputable def swB (sc : Scope) (scope : Scope) (t : Str) (p1 p2 : Pos) : Bool := decide (sc.names.lookup t = some .local) && (p1.line == p2.line) && !(scope.names.any fun (n, k) => n == t && (k == .local || k == .cell))
theorem sw_of {sc scope : Scope} {elt : Expr} {gs : List Comprehension} {pos py : Pos} {y : Str} {l : Nat} {env : PySem.Env} (hk : env.scope.kind = .function) (hs : env.scope = sc) : swapsWith (.ListComp elt gs scope pos) (some (.Name y py)) l env = pure (swB sc scope y py pos) := by
  subst hs
  unfold swapsWith swB
  have hb : (env.blockKind == ScopeKind.function) = true := by
    unfold Env.blockKind
    rw [hk]; rfl
  have hk2 : (env.kindOf y == some NameKind.local) = decide (env.scope.names.lookup y = some NameKind.local) := by
    show (env.scope.names.lookup y == some NameKind.local) = _
    by_cases h : env.scope.names.lookup y = some NameKind.local
    · rw [h]; rfl
    · rw [decide_eq_false h]
      exact beq_eq_false_iff_ne.mpr h
  simp only [hb, hk2, Bool.true_and]
  rfl
/-- the swapped stores of a tuple's assignment; none: the model says nothing -/
noncomputable def swS (sc : Scope) (ts vs : List Expr) : Option (Option (List Str)) :=
  if !(ts.length == 2 || ts.length == 3) || vs.length != ts.length then some none
  else if vs.any (fun e => !notStar e) then some none
  else
    let names := ts.filterMap fun
      | .Name id pos => if sc.names.lookup id == some .local && pos.line == (ts.head?.map (·.pos.line)).getD 0 then some id else none
      | _ => none
    if names.length != ts.length || names.eraseDups.length != names.length then some none
    else if vs.all (foldedForSure 8) then some none
    else if vs.all (constantsAlone 8) then none
    else some (some names)
theorem swS_of {sc : Scope} {ts vs : List Expr} {k k2 : Nat} {p p2 : Pos} {env : PySem.Env} {r : Option (List Str)} (hk : env.scope.kind = .function) (hs : env.scope = sc) (h : swS sc ts vs = some r) :
    swappedStores [.Tuple ts k p] (.Tuple vs k2 p2) env = pure r := by
  subst hs
  have hb : (env.blockKind != ScopeKind.function) = false := by
    unfold Env.blockKind
    rw [hk]; rfl
  unfold swappedStores
  unfold swS at h
  simp only [hb, Bool.or_false]
  split at h
  · rename_i h1
    cases h
    simp only [h1, if_true]
  · rename_i h1
    simp only [Bool.not_eq_true] at h1
    simp only [h1, Bool.false_eq_true, if_false]
    have hany : ∀ f : Expr → Bool, (∀ e, f e = !notStar e) → vs.any f = vs.any (fun e => !notStar e) := fun f hf => by
      congr
      funext e
      exact hf e
    split at h
    · rename_i h2
      cases h
      refine (if_pos ?_).trans rfl
      rw [hany _ (fun e => by cases e <;> rfl)]
      exact h2
    · rename_i h2
      refine (if_neg ?_).trans ?_
      · rw [hany _ (fun e => by cases e <;> rfl)]
        exact h2
      · generalize hg : List.filterMap _ ts = nm
        simp only at h
        generalize hg2 : List.filterMap _ ts = nm2 at h
        have e : nm = nm2 := by
          rw [← hg, ← hg2]
          rfl
        subst e
        split at h
        · rename_i h3
          cases h
          simp only [h3, if_true]
        · rename_i h3
          simp only [Bool.not_eq_true] at h3
          simp only [h3, Bool.false_eq_true, if_false]
          split at h
          · rename_i h4
            cases h
            simp only [h4, if_true]
          · rename_i h4
            simp only [Bool.not_eq_true] at h4
            simp only [h4, Bool.false_eq_true, if_false]
            split at h
            · cases h
            · rename_i h5
              cases h
              simp only [Bool.not_eq_true] at h5
              simp only [h5, Bool.false_eq_true, if_false]
end PL

/-! SO: tables of 8, 16, 32 places laid anew never fail. -/
namespace SE
open PySem PySem.Spec PyProof.Rows L2

/-- masks that come where sets are copied -/
noncomputable def Mk (m : Nat) : Prop := m = 7 ∨ m = 15 ∨ m = 31
theorem lcg_15 : ((List.range 16).all fun i => (List.range 16).all fun j => (List.range 16).any fun k => lcgI 15 i k == j) = true := by decide +kernel
theorem lcg_mk {m : Nat} (hm : Mk m) {i j : Nat} (hi : i ≤ m) (hj : j ≤ m) : ∃ k, k ≤ m ∧ lcgI m i k = j := by
  rcases hm with rfl | rfl | rfl
  · exact lcgI_all (.inl rfl) hi hj
  · have h1 := List.all_eq_true.mp lcg_15 i (List.mem_range.mpr (by omega))
    have h2 := List.all_eq_true.mp h1 j (List.mem_range.mpr (by omega))
    obtain ⟨k, hk, e⟩ := List.any_eq_true.mp h2
    have := List.mem_range.mp hk
    exact ⟨k, by omega, beq_iff_eq.mp e⟩
  · exact lcgI_all (.inr (.inl rfl)) hi hj
theorem way_mk {m : Nat} {h : Int} {k : Nat} : way m h k ≤ m := by
  have hi : SetTable.bits h % (m + 1) ≤ m := Nat.le_of_lt_succ (Nat.mod_lt _ (Nat.succ_pos _))
  have r := runEnd_bd hi
  have q := nth_in (m := m) k (runAt m (SetTable.bits h % (m + 1)) (SetTable.bits h)) (by
    show SetTable.bits h % (m + 1) + (SetTable.runEnd m (SetTable.bits h % (m + 1)) - SetTable.bits h % (m + 1)) ≤ m
    omega)
  show (nth m (runAt m (SetTable.bits h % (m + 1)) (SetTable.bits h)) k).j ≤ m
  omega
/-- a free place is found -/
theorem free_mk {m : Nat} (hm : Mk m) (owner : Array (Option Nat)) (h : Int) {j : Nat} (hj : j ≤ m) (hf : oAt owner j = none) :
    ∃ r, SetTable.layClean.free m owner (SetTable.turns m) (SetTable.bits h % (m + 1)) (SetTable.bits h) = some r ∧ r ≤ m ∧ oAt owner r = none := by
  obtain ⟨k, hk, e⟩ := lcg_mk hm (runI_le m (SetTable.bits h) 12) hj
  have hw : way m h (off m (SetTable.bits h % (m + 1)) (SetTable.bits h) (12 + k)) = j := by
    show (nth m (runAt m (SetTable.bits h % (m + 1)) (SetTable.bits h)) _).j = j
    rw [nth_off, itL_run, runI_tail (bits_lt h)]
    exact e
  obtain ⟨K, k1, k2, k3⟩ := st_least (p := fun k => oAt owner (way m h k) = none) (off m (SetTable.bits h % (m + 1)) (SetTable.bits h) (12 + k)) (by
    show oAt owner (way m h _) = none
    rw [hw]; exact hf)
  refine ⟨way m h K, ?_, way_mk, k2⟩
  refine free_spec m owner (SetTable.turns m) (12 + k) _ _ K (by unfold SetTable.turns; omega) k1 (fun k' hk' => ?_) ?_
  · have q := k3 k' hk'
    cases z : oAt owner (nth m (runAt m (SetTable.bits h % (m + 1)) (SetTable.bits h)) k').j with
    | none => exact absurd z q
    | some _ => rfl
  · have q : oAt owner (nth m (runAt m (SetTable.bits h % (m + 1)) (SetTable.bits h)) K).j = none := k2
    rw [q]; rfl
/-- n have been laid -/
structure Lay (m n : Nat) (owner : Array (Option Nat)) : Prop where
  sz : owner.size = m + 1
  all : ∀ k, k < n → ∃ j, j ≤ m ∧ oAt owner j = some k
  ps : ∃ ps : List Nat, ps.length = n ∧ ∀ j, j ≤ m → oAt owner j ≠ none → j ∈ ps
theorem Lay.more {m n : Nat} {owner : Array (Option Nat)} (hm : Mk m) (W : Lay m n owner) (hl : n ≤ m) (h : Int) :
    ∃ j, SetTable.layClean.free m owner (SetTable.turns m) (SetTable.bits h % (m + 1)) (SetTable.bits h) = some j ∧ Lay m (n + 1) (owner.setIfInBounds j (some n)) := by
  obtain ⟨ps, hps, hin⟩ := W.ps
  obtain ⟨j0, h0, hn0⟩ := st_missing ps (m + 1) (by omega)
  have hj0 : oAt owner j0 = none := by
    cases z : oAt owner j0 with
    | none => rfl
    | some k => exact absurd (hin j0 (by omega) (by rw [z]; exact fun e => nomatch e)) hn0
  obtain ⟨r, e1, e2, e3⟩ := free_mk hm owner h (show j0 ≤ m by omega) hj0
  have hr : r < owner.size := by rw [W.sz]; omega
  refine ⟨r, e1, by rw [Array.size_setIfInBounds]; exact W.sz, fun k hk => ?_, r :: ps, by rw [List.length_cons, hps], fun j hj e => ?_⟩
  · by_cases c : k < n
    · obtain ⟨j, hj, e⟩ := W.all k c
      have hne : j ≠ r := fun z => by rw [z, e3] at e; cases e
      exact ⟨j, hj, by rw [oAt_set_ne _ hne]; exact e⟩
    · obtain rfl : k = n := by omega
      exact ⟨r, e2, oAt_set_self _ hr⟩
  · by_cases c : j = r
    · rw [c]; exact List.mem_cons_self
    · rw [oAt_set_ne _ c] at e
      exact List.mem_cons_of_mem _ (hin j hj e)
theorem lay_all {m : Nat} (hm : Mk m) : ∀ (rest : List Int) (n : Nat) (owner : Array (Option Nat)), Lay m n owner → n + rest.length ≤ m →
    ∃ owner', rest.foldl (stepF m) (some (owner, n)) = some (owner', n + rest.length) ∧ Lay m (n + rest.length) owner'
  | [], n, owner, W, _ => ⟨owner, rfl, W⟩
  | h :: rest, n, owner, W, hl => by
    rw [List.length_cons] at hl
    obtain ⟨j, e, W'⟩ := W.more hm (by omega) h
    obtain ⟨owner', f, W2⟩ := lay_all hm rest (n + 1) _ W' (by omega)
    refine ⟨owner', ?_, ?_⟩
    · rw [List.foldl_cons, stepF_some e, f, List.length_cons, Nat.add_assoc, Nat.add_comm 1]
    · rw [List.length_cons, show n + (rest.length + 1) = n + 1 + rest.length by omega]; exact W2
theorem laid_mk {m : Nat} (hm : Mk m) {hs : Array Int} (hn : hs.size ≤ m) (fi mo : Nat) (led plain : Bool) : ∃ t order, SetTable.laid m fi mo led plain hs = some (t, order) ∧
    order.toList.Perm (List.range hs.size) ∧ t.mask = m ∧ t.dummies = #[] ∧ t.led = led ∧ t.plain = plain ∧ Ris t.place.toList ∧ t.place.size = hs.size := by
  obtain ⟨owner, f, W⟩ := lay_all hm hs.toList 0 (Array.replicate (m + 1) none) ⟨by simp, fun k hk => absurd hk (Nat.not_lt_zero _), [], rfl, fun j hj e => absurd (oAt_init hj) e⟩ (by rw [Array.length_toList]; omega)
  rw [Array.length_toList, Nat.zero_add] at f W
  have hc : SetTable.layClean m hs = some owner := by rw [layClean_eq, f]; rfl
  have ris := ris_live (fun j => owner.getD j none) (List.range (m + 1)) (by
    unfold Ris
    first | exact List.pairwise_lt_range | exact List.pairwise_lt_range _)
  have nd : ((liveOf m owner).map (·.1)).Nodup := List.Pairwise.imp (fun h => Nat.ne_of_lt h) ris.1
  obtain ⟨ps, p1, p2⟩ := W.ps
  have a := nat_nodup_len ((liveOf m owner).map (·.1)) ps nd fun x hx => by
    obtain ⟨⟨j, k⟩, hjk, rfl⟩ := List.mem_map.mp hx
    obtain ⟨q1, q2⟩ := (mem_live W.sz).mp hjk
    exact p2 j q1 (by rw [q2]; exact fun e => nomatch e)
  have sub : ∀ k, k < hs.size → k ∈ (liveOf m owner).map (·.2) := fun k hk => by
    obtain ⟨j, hj, e⟩ := W.all k hk
    exact List.mem_map.mpr ⟨(j, k), (mem_live W.sz).mpr ⟨hj, e⟩, rfl⟩
  have b := nat_nodup_len (List.range hs.size) ((liveOf m owner).map (·.2)) List.nodup_range fun x hx => sub x (List.mem_range.mp hx)
  rw [List.length_map] at a b
  rw [List.length_range] at b
  have hlen : (liveOf m owner).length = hs.size := by omega
  refine ⟨{ mask := m, place := ((liveOf m owner).map (·.1)).toArray, dummies := #[], finger := fi, led := led, moves := mo, plain := plain }, ((liveOf m owner).map (·.2)).toArray, ?_, ?_, rfl, rfl, rfl, rfl, ris.1, ?_⟩
  · unfold SetTable.laid
    rw [hc]
    rfl
  · exact perm_range hs.size _ (by rw [List.length_map]; exact hlen) sub
  · show ((liveOf m owner).map (·.1)).toArray.size = hs.size
    rw [List.size_toArray, List.length_map]; exact hlen
theorem above_all : ((List.range 32).all fun n => (SetTable.sizeAbove n == 8 || SetTable.sizeAbove n == 16 || SetTable.sizeAbove n == 32) && decide (n < SetTable.sizeAbove n)) = true := by decide +kernel
theorem above_mk {n : Nat} (h : n < 32) : Mk (SetTable.sizeAbove n - 1) ∧ n ≤ SetTable.sizeAbove n - 1 ∧ SetTable.sizeAbove n ≤ 32 := by
  have q := List.all_eq_true.mp above_all n (List.mem_range.mpr h)
  simp only [Bool.and_eq_true, Bool.or_eq_true, beq_iff_eq, decide_eq_true_eq] at q
  unfold Mk
  omega
end SE

/-! SO2: walks of sets of keys that nobody sees; members asked. -/
namespace SE
open PySem PySem.Spec PyProof.Rows L2
section
variable {P : Program} {w : World} {A : Around} {E : Value → Shared → Prop} {s : Shared} {a : Addr} {ks : List Key}
theorem setWalk_eq (a : Addr) : setWalk a = (do
    let (es, epoch, t) ← setState a
    if ← setsByText then return pickOrder ((← ask).params.setOrder a epoch) es
    if (!t.plain && decide (es.size > 1)) = true then return (← drawOrder es.size es.toList).toArray
    (if (!t.led && decide (es.size > 1)) = true then unsupported "set:maker-not-led" else pure ())
    return es) := by rfl
/-- the members lie so -/
structure Wk (P : Program) (w : World) (es : Array (Int × Value)) (ks : List Key) : Prop where
  el : ElemsOf (mixKind P w) es.toList
  nd : (inT es).Nodup
  me : ∀ k, k ∈ inT es ↔ k ∈ ks
  sz : es.size ≤ ks.length
theorem Tbl.wk {es : Array (Int × Value)} {t : SetTable} (T : Tbl P w es t ks) : Wk P w es ks := ⟨T.el, T.nd, T.me, T.sz⟩
theorem Wk.perm {es es' : Array (Int × Value)} (W : Wk P w es ks) (p : es'.toList.Perm es.toList) : Wk P w es' ks := by
  have pk := p.map fun e : Int × Value => vKey e.2
  refine ⟨fun e he => W.el e (p.mem_iff.mp he), pk.nodup_iff.mpr W.nd, fun k => pk.mem_iff.trans (W.me k), ?_⟩
  have := p.length_eq
  simp only [Array.length_toList] at this
  rw [this]; exact W.sz
theorem walk_led {o : Obj} {es : Array (Int × Value)} {ep : Nat} {t : SetTable} (ho : s.heap.get? a = some o) (hd : o.data = .set es ep t) (T : Tbl P w es t ks)
    (c : w.params.followText "set-order" = true ∨ t.led = true ∧ (t.plain = true ∨ es.size ≤ 1)) {Q : Array (Int × Value) → Shared → Prop} (h : ∀ es', es'.toList.Perm es.toList → Q es' s) : wpAny (model P w) A (setWalk a) Q E s := by
  rw [setWalk_eq]
  refine wpAny_bind (wpAny_setState_of ho hd T.ft ?_)
  dsimp only
  refine wpAny_bind (wpAny_byText ?_)
  cases hb : w.params.followText "set-order" with
  | true =>
    refine wp_if_pos rfl ?_
    exact wpAny_bind (wpAny_askSetting (wpAny_pure (h _ (pick_perm _ _))))
  | false =>
    rw [hb] at c
    obtain ⟨c1, c2⟩ := c.resolve_left (by simp)
    refine wp_if_neg (by simp) ?_
    have hn : ¬ (!t.plain && decide (es.size > 1)) = true := by
      rcases c2 with z | z
      · rw [z]; simp
      · have : ¬ es.size > 1 := by omega
        simp [this]
    try refine wpAny_bind (wpAny_pure ?_)
    refine wp_if_neg hn ?_
    try refine wpAny_bind (wpAny_pure ?_)
    refine wpAny_bind ?_
    refine wp_if_neg (by rw [c1]; simp) ?_
    exact wpAny_pure (wpAny_pure (h _ (List.Perm.refl _)))
theorem scan_noref {v : Value} (h : v.scannable = true) : ∀ b, v ≠ .ref b := by
  intro b e
  rw [e] at h
  cases h
theorem quiet_sets : ∀ (os : List Addr), (∀ b ∈ os, ∃ js, KS P w s.heap b js) → ∀ {Q : Bool → Shared → Prop}, Q true s → wpAny (model P w) A (setsQuiet os) Q E s := by
  intro os ho Q h
  unfold setsQuiet
  refine wpAny_bind (wpAny_forIn_list _ (fun rest b s' => s' = s ∧ (∀ x ∈ rest, ∃ js, KS P w s.heap x js) ∧ b = ⟨none, ⟨⟩⟩) _ (fun x rest b s' hi => ?_) (fun b s' hi => ?_) os _ ⟨rfl, ho, rfl⟩)
  · obtain ⟨rfl, hx, rfl⟩ := hi
    obtain ⟨js, o, es, ep, t, h1, h2, h3, T⟩ := hx x List.mem_cons_self
    refine wpAny_bind (wpAny_setEntries_of h1 h3 T.ft ?_)
    refine wpAny_bind (wpAny_forIn_array' _ (fun rest b s'' => s'' = s' ∧ (∀ e ∈ rest, e.2.scannable = true) ∧ b = (none, ())) _ (fun y rest b s'' hi => ?_) (fun b s'' hi => ?_) es _ ⟨rfl, fun e he => (T.el e he).2, rfl⟩)
    · obtain ⟨rfl, hy, rfl⟩ := hi
      have h5 := hy y List.mem_cons_self
      obtain ⟨y1, y2⟩ := y
      have h6 := scan_noref h5
      simp only at h6
      cases y2 with
      | ref b => exact absurd rfl (h6 b)
      | _ => exact wpAny_pure ⟨rfl, fun e he => hy e (List.mem_cons_of_mem _ he), rfl⟩
    · obtain ⟨rfl, _, rfl⟩ := hi
      exact wpAny_pure ⟨rfl, fun x hx' => hx x (List.mem_cons_of_mem _ hx'), rfl⟩
  · obtain ⟨rfl, _, rfl⟩ := hi
    exact wpAny_pure h
/-- a walk of a set that nobody sees, while f is filled -/
theorem ks_walk {f : Addr} {fs : List Key} {os : List Addr} (R : KS P w s.heap a ks) (F : KS P w s.heap f fs) (hb : fs.length < scanBound) (O : ∀ b ∈ os, ∃ js, KS P w s.heap b js) {Q : Array (Int × Value) → Shared → Prop}
    (hQ : ∀ es h', Heap.SameBut f s.heap h' → KS P w h' f fs → Wk P w es ks → Q es { s with heap := h' }) : wpAny (model P w) A (setWalkUnseen a os (some f)) Q E s := by
  obtain ⟨o, es, ep, t, ho, hx, hd, T⟩ := id R
  unfold setWalkUnseen
  refine wpAny_bind (wpAny_setState_of ho hd T.ft ?_)
  dsimp only
  refine wpAny_bind (wpAny_byText ?_)
  by_cases c : (w.params.followText "set-order" || t.led && t.plain || decide (es.size ≤ 1)) = true
  · refine wp_if_pos c ?_
    refine walk_led ho hd T ?_ fun es' p => hQ es' s.heap (Heap.SameBut.refl f s.heap) F (T.wk.perm p)
    simp only [Bool.or_eq_true, Bool.and_eq_true, decide_eq_true_eq] at c
    rcases c with (c | c) | c
    · exact .inl c
    · exact .inr ⟨c.1, .inl c.2⟩
    · rcases T.od with z | z
      · exact .inl z
      · exact .inr ⟨z, .inr c⟩
  · refine wp_if_neg c ?_
    simp only [Bool.or_eq_true, not_or, Bool.not_eq_true] at c
    refine wpAny_bind (quiet_sets (a :: os) (fun b hb => ?_) ?_)
    · rcases List.mem_cons.mp hb with z | z
      · rw [z]; exact ⟨ks, R⟩
      · exact O b z
    refine wp_if_neg (by simp) ?_
    refine wpAny_bind (wpAny_rule ?_)
    obtain ⟨o2, ef, ep2, tf, ho2, hx2, hd2, T2⟩ := id F
    have hled : t.led = true := T.od.resolve_left (by rw [c.1.1]; simp)
    have hled2 : tf.led = true := T2.od.resolve_left (by rw [c.1.1]; simp)
    refine wpAny_bind (wpAny_setState_of ho2 hd2 T2.ft ?_)
    dsimp only
    split
    · refine wpAny_bind (wpAny_storeSet_of ho2 hd2 ?_ (fits_of_scanBound (Nat.lt_of_le_of_lt T2.sz hb)))
      refine wpAny_pure (hQ es _ (Heap.SameBut.update s.heap f _) ⟨_, ef, _, _, store_at ho2 hd2, hx2, rfl, ?_⟩ T.wk)
      exact { el := T2.el, nd := T2.nd, me := T2.me, sz := T2.sz, ft := T2.ft, ri := T2.ri, od := .inr (by show (tf.led && t.led) = true; rw [hled, hled2]; rfl) }
    · exact wpAny_pure (hQ es s.heap (Heap.SameBut.refl f s.heap) F T.wk)
/-- whether it is a member -/
theorem ks_find {k : Key} {v : Value} (R : KS P w s.heap a ks) (hb : ks.length < scanBound) (hv : (mixKind P w).is k v = true) {Q : Option Nat → Shared → Prop} (h : ∀ r : Option Nat, (r.isSome = true ↔ k ∈ ks) → Q r s) :
    wpAny (model P w) A (setFind a v ((mixKind P w).hash k)) Q E s := by
  obtain ⟨o, es, ep, t, ho, hx, hd, T⟩ := R
  classical
  refine PySem.W.setFind_any (S := fun k => decide (k ∈ inT es)) hv (scan_is hv) ho hd T.el (fun k => ?_) (Nat.lt_of_le_of_lt T.sz hb) T.ft fun r hr => h r ?_
  · rw [decide_eq_true_eq]; exact el_mem T.el
  · rw [hr, decide_eq_true_eq]; exact T.me k
theorem ks_epoch (R : KS P w s.heap a ks) : ∃ ep, ∀ {Q : Nat → Shared → Prop}, Q ep s → wpAny (model P w) A (setEpoch a) Q E s := by
  obtain ⟨o, es, ep, t, ho, hx, hd, T⟩ := R
  exact ⟨ep, fun h => wpAny_setEpoch_of ho hd T.ft h⟩
theorem Wk.at_ {es : Array (Int × Value)} (W : Wk P w es ks) {e : Int × Value} (he : e ∈ es.toList) : (mixKind P w).is (vKey e.2) e.2 = true ∧ e.1 = (mixKind P w).hash (vKey e.2) := by
  obtain ⟨⟨k, h1, h2⟩, _⟩ := W.el e he
  rw [vKey_is h1]
  exact ⟨h1, h2⟩
end
end SE

/-! SO3: the difference of two sets of keys. -/
namespace SE
open PySem PySem.Spec PyProof.Rows L2
section
variable {P : Program} {w : World} {A : Around} {E : Value → Shared → Prop} {s : Shared} {a b : Addr} {ks ls : List Key}
theorem KS.typeIs (R : KS P w s.heap a ks) : s.TypeIs (.ref a) "set" := by
  obtain ⟨o, es, ep, t, ho, hx, hd, T⟩ := R
  exact ⟨o, ho, hx.1⟩
theorem KS.lt {h : Heap} (R : KS P w h a ks) : a < h.objs.size := by
  obtain ⟨o, es, ep, t, ho, hx, hd, T⟩ := R
  exact Heap.lt_size ho
theorem anySet_ks (R : KS P w s.heap a ks) {Q : Bool → Shared → Prop} (h : Q true s) : wpAny (model P w) A (Builtin.Frozenset.isAnySet (.ref a)) Q E s := by
  unfold Builtin.Frozenset.isAnySet orM
  refine wpAny_bind (wpAny_isInstance (b := true) R.typeIs (by rw [isSubtype_type]; kernel_rfl) ?_)
  exact wpAny_pure h
theorem size_ks (R : KS P w s.heap a ks) {Q : Nat → Shared → Prop} (h : ∀ es : Array (Int × Value), Wk P w es ks → Q es.size s) : wpAny (model P w) A (Builtin.Frozenset.sizeOf a) Q E s := by
  obtain ⟨o, es, ep, t, ho, hx, hd, T⟩ := R
  unfold Builtin.Frozenset.sizeOf
  exact wpAny_bind (wpAny_setEntries_of ho hd T.ft (wpAny_pure (h es T.wk)))
theorem newSet_ks {Q : Value → Shared → Prop} (h : Q (.ref s.heap.objs.size) { s with heap := s.heap.push (nSet w) }) : wpAny (model P w) A (newSet (.type "set")) Q E s := by
  unfold newSet
  refine wpAny_bind (wpAny_byText ?_)
  exact wpAny_newObj_type h
theorem base_ks (R : KS P w s.heap a ks) {Q : Value → Shared → Prop} (h : Q (.type "set") s) : wpAny (model P w) A (Builtin.Frozenset.baseOf a) Q E s := by
  unfold Builtin.Frozenset.baseOf
  refine wpAny_bind (wpAny_isInstance (b := true) R.typeIs (by rw [isSubtype_type]; kernel_rfl) ?_)
  exact wpAny_pure h
theorem ks_diff {id : String} (R : KS P w s.heap a ks) (R2 : KS P w s.heap b ls) (h7 : ks.length ≤ 7) (hne : ls ≠ []) (hl : ls.length < scanBound) {Q : Value → Shared → Prop}
    (hQ : ∀ h' js, (∀ c o, s.heap.get? c = some o → h'.get? c = some o) → KS P w h' s.heap.objs.size js → js.length ≤ ks.length → (∀ k, k ∈ js ↔ k ∈ ks ∧ k ∉ ls) → Q (.ref s.heap.objs.size) { s with heap := h' }) :
    wpAny (model P w) A (Builtin.Frozenset.difference id a (.ref b)) Q E s := by
  unfold Builtin.Frozenset.difference
  dsimp only
  refine wpAny_bind (anySet_ks R2 ?_)
  refine wp_if_neg (by simp) ?_
  try refine wpAny_bind (m := Builtin.Frozenset.addrOf (.ref b)) (wpAny_pure ?_)
  refine wp_if_neg (by simp) ?_
  refine wp_if_pos rfl ?_
  refine wpAny_bind (size_ks R2 fun es2 W2 => ?_)
  refine wpAny_bind (size_ks R fun es1 W1 => ?_)
  have hs2 : 1 ≤ es2.size := by
    obtain ⟨k, hk⟩ := List.exists_mem_of_ne_nil ls hne
    have := (W2.me k).mpr hk
    have h0 := List.length_pos_of_mem this
    rw [List.length_map, Array.length_toList] at h0
    exact h0
  have hs1 := W1.sz
  refine wp_if_neg (by omega) ?_
  refine wpAny_bind (base_ks R ?_)
  refine wpAny_bind (newSet_ks ?_)
  refine wpAny_bind (m := Builtin.Frozenset.addrOf _) (wpAny_pure ?_)
  have kp : ∀ c o, s.heap.get? c = some o → (s.heap.push (nSet w)).get? c = some o := fun c o e => Heap.get?_push_of_some _ e
  have hS : (s.heap.push (nSet w)).get? s.heap.objs.size = some (nSet w) := Heap.get?_push_size _ rfl
  have Ra : KS P w (s.heap.push (nSet w)) a ks := R.keep (kp a)
  have Rb : KS P w (s.heap.push (nSet w)) b ls := R2.keep (kp b)
  have Rr : KS P w (s.heap.push (nSet w)) s.heap.objs.size [] := ks_nil hS
  have ha := R.lt
  have hb := R2.lt
  have Ra2 := Ra
  obtain ⟨oa, ea, epa, ta, hoa, hxa, hda, Ta⟩ := Ra2
  refine wpAny_bind (wpAny_setEpoch_of hoa hda Ta.ft ?_)
  refine wpAny_bind (wpAny_holding ?_)
  refine wpAny_bind ?_
  refine wp_if_pos rfl ?_
  refine ks_walk (s := { s with heap := s.heap.push (nSet w) }) Ra Rr (by show 0 < scanBound; decide) (fun c hc => ?_) fun es h1 sb Rf W => ?_
  · rcases List.mem_cons.mp hc with z | z
    · rw [z]; exact ⟨ls, Rb⟩
    · rw [List.mem_singleton.mp z]; exact ⟨[], Rr⟩
  have na : a ≠ s.heap.objs.size := Nat.ne_of_lt ha
  have nb : b ≠ s.heap.objs.size := Nat.ne_of_lt hb
  refine wpAny_bind (wpAny_forIn_array' _ (fun rest _ s' => ∃ (done : List (Int × Value)) (js : List Key) (h' : Heap), es.toList = done ++ rest ∧ s' = { s with heap := h' } ∧ Heap.SameBut s.heap.objs.size h1 h' ∧ KS P w h' s.heap.objs.size js ∧ js.length ≤ done.length ∧ ∀ k, k ∈ js ↔ k ∈ done.map (fun e => vKey e.2) ∧ k ∉ ls) _
    (fun x rest u s' hi => ?_) (fun u s' hi => ?_) es _ ⟨[], [], h1, rfl, rfl, Heap.SameBut.refl _ _, Rf, Nat.le_refl _, fun k => by simp⟩)
  · obtain ⟨done, js, h', e1, rfl, sb2, Rj, jl, jm⟩ := hi
    obtain ⟨x1, x2⟩ := x
    have hx := W.at_ (show (x1, x2) ∈ es.toList by rw [e1]; simp)
    obtain ⟨hx1, hx2⟩ := hx
    simp only at hx1 hx2
    subst hx2
    have keepb : ∀ o, (s.heap.push (nSet w)).get? b = some o → h'.get? b = some o := fun o e => (sb2.2 b nb).trans ((sb.2 b nb).trans e)
    have keepa : h'.get? a = some oa := (sb2.2 a na).trans ((sb.2 a na).trans hoa)
    have hdl : done.length < ks.length := by
      have := congrArg List.length e1
      rw [List.length_append, List.length_cons, Array.length_toList] at this
      have := W.sz
      omega
    have fin : ∀ (h2 : Heap) (Z : ForInStep PUnit → Shared → Prop), Heap.SameBut s.heap.objs.size h' h2 → Z (.yield PUnit.unit) { s with heap := h2 } →
        wpAny (model P w) A (do Builtin.Frozenset.unchanged id a epa; pure (ForInStep.yield PUnit.unit)) Z E { s with heap := h2 } := fun h2 Z sb3 hZ => by
      unfold Builtin.Frozenset.unchanged
      refine wpAny_bind (wpAny_bind (wpAny_setEpoch_of (s := { s with heap := h2 }) ((sb3.2 a na).trans keepa) hda Ta.ft ?_))
      refine wp_if_neg (by simp) ?_
      exact wpAny_pure (wpAny_pure hZ)
    refine wpAny_bind (wpAny_holding ?_)
    refine wp_if_pos rfl ?_
    refine wpAny_bind (ks_find (s := { s with heap := h' }) (Rb.keep keepb) hl hx1 fun r hr => ?_)
    refine wpAny_bind (wpAny_pure ?_)
    cases hh : r.isSome with
    | true =>
      refine wp_if_neg (by simp) ?_
      refine wpAny_pure (fin h' _ (Heap.SameBut.refl _ _) ⟨done ++ [((mixKind P w).hash (vKey x2), x2)], js, h', by rw [e1, List.append_assoc]; rfl, rfl, sb2, Rj, by rw [List.length_append]; simp; omega, fun k => ?_⟩)
      rw [jm k, List.map_append, List.mem_append, List.map_cons, List.map_nil, List.mem_singleton]
      constructor
      · rintro ⟨q1, q2⟩; exact ⟨.inl q1, q2⟩
      · rintro ⟨q1 | q1, q2⟩
        · exact ⟨q1, q2⟩
        · rw [q1] at q2; exact absurd (hr.mp hh) q2
    | false =>
      refine wp_if_pos (by simp) ?_
      refine wpAny_bind (ks_add (s := { s with heap := h' }) Rj hx1 (by have : scanBound = 4096 := rfl; omega) fun b2 h2 sb3 R3 => ?_)
      refine wpAny_pure (fin h2 _ sb3 ⟨done ++ [((mixKind P w).hash (vKey x2), x2)], _, h2, by rw [e1, List.append_assoc]; rfl, rfl, sb2.trans sb3, R3, by rw [List.length_append, List.length_append]; simp; omega, fun k => ?_⟩)
      rw [List.mem_append, List.mem_singleton, jm k, List.map_append, List.mem_append, List.map_cons, List.map_nil, List.mem_singleton]
      have hn : vKey x2 ∉ ls := fun z => by have := hr.mpr z; rw [hh] at this; cases this
      constructor
      · rintro (⟨q1, q2⟩ | q1)
        · exact ⟨.inl q1, q2⟩
        · exact ⟨.inr q1, by rw [q1]; exact hn⟩
      · rintro ⟨q1 | q1, q2⟩
        · exact .inl ⟨q1, q2⟩
        · exact .inr q1
  · obtain ⟨done, js, h', e1, rfl, sb2, Rj, jl, jm⟩ := hi
    rw [List.append_nil] at e1
    refine wpAny_pure (wpAny_pure (hQ h' js (fun c o e => ?_) Rj ?_ fun k => ?_))
    · have nc : c ≠ s.heap.objs.size := Nat.ne_of_lt (Heap.lt_size e)
      exact (sb2.2 c nc).trans ((sb.2 c nc).trans (kp c o e))
    · have := congrArg List.length e1
      rw [Array.length_toList] at this
      have := W.sz
      omega
    · rw [jm k, ← e1]
      have := W.me k
      rw [← this]
end
end SE

/-! SO4: a set of keys merged into another. -/
namespace SE
open PySem PySem.Spec PyProof.Rows L2
section
variable {P : Program} {w : World} {A : Around} {E : Value → Shared → Prop} {s : Shared} {a b : Addr} {ks ls : List Key}
theorem setMerge_eq (s o : Addr) (each : Sem Unit) : setMerge s o each = (do
    if s == o then return
    let (eo, epoch, to) ← setState o
    if eo.isEmpty then return
    setRoomFor s eo.size
    let (_, _, ts) ← setState s
    match ts.road to with
    | .slotForSlot => storeSet s eo { to with finger := ts.finger, led := ts.led && to.led, moves := ts.moves, plain := ts.plain && to.plain }
    | .clean =>
      let (es, t) ← (do
        let some (t, order) := SetTable.laid ts.mask ts.finger ts.moves (led := ts.led && to.led) (plain := ts.plain && to.plain) (eo.map (·.1)) | unsupported "internal:set-table-without-room"
        let es' := order.filterMap (eo[·]?)
        if es'.size != eo.size then unsupported "internal:set-table-lost-an-element"
        pure (es', t) : Sem (Array (Int × Value) × SetTable))
      storeSet s es t
    | .oneByOne =>
      for (h, x) in ← setWalkUnseen o [s] (some s) do
        let _ ← holding [x] (setAddHashed s x h)
        each
        if (← setState o).2.1 != epoch then unsupported "set.changed-during-merge") := by rfl
theorem filter_perm {α : Type} {order : Array Nat} {es : Array α} (hp : order.toList.Perm (List.range es.size)) : (order.filterMap (es[·]?)).toList.Perm es.toList := by
  rw [Array.toList_filterMap]
  exact (hp.filterMap _).trans (by rw [filterMap_getElem?_range])
theorem Tbl.laid {es es' : Array (Int × Value)} {t t' : SetTable} (T : Tbl P w es t ks) (p : es'.toList.Perm es.toList) (hd : t'.dummies = #[]) (hl : Ord w t') (hr : Ris t'.place.toList) (hs : t'.place.size = es.size) (hm : es.size ≤ t'.mask) : Tbl P w es' t' ks := by
  have W := T.wk.perm p
  have z : es'.size = es.size := by
    have := p.length_eq
    simpa using this
  refine ⟨W.el, W.nd, W.me, W.sz, ?_, hr, hl⟩
  unfold SetTable.fits SetTable.fill
  rw [hd, Bool.and_eq_true, beq_iff_eq, decide_eq_true_eq]
  show t'.place.size = es'.size ∧ t'.place.size + 0 ≤ t'.mask
  omega
theorem fits_place {t : SetTable} {n : Nat} (h : t.fits n = true) : t.place.size = n := by
  unfold SetTable.fits at h
  rw [Bool.and_eq_true, beq_iff_eq] at h
  exact h.1
theorem room_ks {more : Nat} {o : Obj} {es : Array (Int × Value)} {ep : Nat} {t : SetTable} (ho : s.heap.get? a = some o) (hx : o.ExactSet) (hd : o.data = .set es ep t) (T : Tbl P w es t ks) (hsz : es.size + more ≤ 15) {Q : Unit → Shared → Prop}
    (hQ : ∀ h' o' es' ep' t', Heap.SameBut a s.heap h' → h'.get? a = some o' → o'.ExactSet → o'.data = .set es' ep' t' → Tbl P w es' t' ks → es'.size = es.size → (t' = t ∧ (t.fill + more) * 5 < t.mask * 3 ∨ Mk t'.mask ∧ more ≤ t'.mask) → Q () { s with heap := h' }) :
    wpAny (model P w) A (setRoomFor a more) Q E s := by
  unfold setRoomFor
  refine wpAny_bind (wpAny_setState_of ho hd T.ft ?_)
  dsimp only
  have hp := fits_place T.ft
  unfold SetTable.roomFor
  by_cases c : (t.fill + more) * 5 ≥ t.mask * 3
  · rw [if_pos c]
    dsimp only
    rw [hp]
    obtain ⟨hm, hn, h32⟩ := above_mk (n := (es.size + more) * 2) (by omega)
    obtain ⟨t', order, e, q1, q2, q3, q4, q5, q6, q7⟩ := laid_mk hm (hs := es.map (·.1)) (by rw [Array.size_map]; omega) t.finger (t.movedTo (SetTable.sizeAbove ((es.size + more) * 2) - 1)) t.led t.plain
    rw [Array.size_map] at q1 q7
    have hz : (order.filterMap (es[·]?)).size = es.size := by
      have := (filter_perm q1).length_eq
      rwa [Array.length_toList, Array.length_toList] at this
    have e' : t.relaid (es.map (·.1)) ((es.size + more) * 2) = some (t', order) := e
    rw [setRelay_eq]
    refine wpAny_bind (wpAny_setState_of ho hd T.ft ?_)
    dsimp only
    refine wp_if_neg (by rw [sizeLine_eq]; omega) ?_
    try refine wpAny_bind (wpAny_pure ?_)
    rw [e']
    dsimp only
    refine wpAny_bind ?_
    refine wp_if_neg (by rw [hz]; simp) ?_
    try refine wpAny_bind (wpAny_pure ?_)
    refine wpAny_pure ?_
    dsimp only
    refine wpAny_storeSet_of ho hd ?_ (by rw [hz, sizeLine_eq]; omega)
    refine hQ _ _ _ _ t' (Heap.SameBut.update ..) (store_at ho hd) ⟨hx.1, hx.2.1, hx.2.2⟩ rfl ?_ hz (.inr ⟨by rw [q2]; exact hm, by rw [q2]; omega⟩)
    exact T.laid (filter_perm q1) q3 (T.od.imp id fun z => by rw [q4]; exact z) q6 q7 (by rw [q2]; omega)
  · rw [if_neg c]
    exact wpAny_pure (hQ s.heap o es ep t (Heap.SameBut.refl _ _) ho hx hd T rfl (.inl ⟨rfl, by omega⟩))
theorem no_mem {es : Array (Int × Value)} {t : SetTable} (T : Tbl P w es t ks) (h : es.size = 0) : ∀ k, k ∉ ks := fun k hk => by
  have := (T.me k).mpr hk
  have h0 := List.length_pos_of_mem this
  rw [List.length_map, Array.length_toList] at h0
  omega
/-- b merged into a -/
theorem merge_ks {each : Sem Unit} (R : KS P w s.heap a ks) (R2 : KS P w s.heap b ls) (hne : a ≠ b) (hz : ks.length + ls.length ≤ 15) (hst : s.heap.get? a = some (nSet w) ∧ ks = [] ∨ ∃ k, k ∈ ks)
    (heach : ∀ s' : Shared, (∀ o, s.heap.get? b = some o → s'.heap.get? b = some o) → ∀ {Z : Unit → Shared → Prop}, Z () s' → wpAny (model P w) A each Z E s') {Q : Unit → Shared → Prop}
    (hQ : ∀ h' js, Heap.SameBut a s.heap h' → KS P w h' a js → js.length ≤ ks.length + ls.length → (∀ k, k ∈ js ↔ k ∈ ks ∨ k ∈ ls) → (h'.get? a = some (nSet w) ∧ js = [] ∨ ∃ k, k ∈ js) → Q () { s with heap := h' }) :
    wpAny (model P w) A (setMerge a b each) Q E s := by
  rw [setMerge_eq]
  refine wp_if_neg (by simpa using hne) ?_
  have R2' := R2
  obtain ⟨ob, eb, epb, tb, hob, hxb, hdb, Tb⟩ := R2'
  refine wpAny_bind (wpAny_setState_of hob hdb Tb.ft ?_)
  dsimp only
  by_cases he : eb.isEmpty = true
  · refine wp_if_pos he ?_
    have h0 : eb.size = 0 := by rw [Array.isEmpty_iff_size_eq_zero] at he; exact he
    have hn := no_mem Tb h0
    exact wpAny_pure (hQ s.heap ks (Heap.SameBut.refl _ _) R (by omega) (fun k => ⟨.inl, fun z => z.resolve_right (hn k)⟩) hst)
  refine wp_if_neg he ?_
  have hb1 : 1 ≤ eb.size := by
    rw [Array.isEmpty_iff_size_eq_zero] at he
    omega
  have hls : ∃ k, k ∈ ls := by
    have h0 : 0 < (inT eb).length := by rw [List.length_map, Array.length_toList]; omega
    obtain ⟨k, hk⟩ := List.exists_mem_of_length_pos h0
    exact ⟨k, (Tb.me k).mp hk⟩
  have R' := R
  obtain ⟨o, es, ep, t, ho, hx, hd, T⟩ := R'
  have hzb := Tb.sz
  have hza := T.sz
  refine wpAny_bind (room_ks ho hx hd T (by omega) fun h1 o1 es1 ep1 t1 sb1 ho1 hx1 hd1 T1 hs1 hroom => ?_)
  have hnb : b ≠ a := Ne.symm hne
  have keepb : ∀ o, s.heap.get? b = some o → h1.get? b = some o := fun o e => (sb1.2 b hnb).trans e
  have R1 : KS P w h1 a ks := ⟨o1, es1, ep1, t1, ho1, hx1, hd1, T1⟩
  refine wpAny_bind (wpAny_setState_of (s := { s with heap := h1 }) ho1 hd1 T1.ft ?_)
  dsimp only
  have hp1 := fits_place T1.ft
  have ord : ∀ {l1 l2 : Bool}, Ord w t1 → Ord w tb → w.params.followText "set-order" = true ∨ (t1.led && tb.led) = true := fun {l1 l2} q1 q2 => by
    rcases q1 with q1 | q1
    · exact .inl q1
    · rcases q2 with q2 | q2
      · exact .inl q2
      · exact .inr (by rw [q1, q2]; rfl)
  unfold SetTable.road
  by_cases hf : (t1.fill != 0) = true
  · rw [if_pos hf]
    dsimp only
    refine wpAny_bind (ks_walk (s := { s with heap := h1 }) (R2.keep keepb) R1 (by have : scanBound = 4096 := rfl; omega) (fun c hc => ?_) fun ew h2 sb2 R3 W => ?_)
    · rw [List.mem_singleton.mp hc]; exact ⟨ks, R1⟩
    refine wpAny_bind (wpAny_forIn_array' _ (fun rest _ s' => ∃ (done : List (Int × Value)) (js : List Key) (h' : Heap), ew.toList = done ++ rest ∧ s' = { s with heap := h' } ∧ Heap.SameBut a s.heap h' ∧ KS P w h' a js ∧ js.length ≤ ks.length + done.length ∧ ∀ k, k ∈ js ↔ k ∈ ks ∨ k ∈ done.map (fun e => vKey e.2)) _
      (fun x rest u s' hi => ?_) (fun u s' hi => ?_) ew _ ⟨[], ks, h2, rfl, rfl, sb1.trans sb2, R3, by simp, fun k => by simp⟩)
    · obtain ⟨done, js, h', e1, rfl, sb3, Rj, jl, jm⟩ := hi
      obtain ⟨x1, x2⟩ := x
      obtain ⟨hx1', hx2⟩ := W.at_ (show (x1, x2) ∈ ew.toList by rw [e1]; simp)
      simp only at hx1' hx2
      subst hx2
      have hdl : done.length < ls.length := by
        have := congrArg List.length e1
        rw [List.length_append, List.length_cons, Array.length_toList] at this
        have := W.sz
        omega
      refine wpAny_bind (wpAny_holding (ks_add (s := { s with heap := h' }) Rj hx1' (by have : scanBound = 4096 := rfl; omega) fun b2 h3 sb4 R4 => ?_))
      have kb : h3.get? b = some ob := ((sb3.trans sb4).2 b hnb).trans hob
      refine wpAny_bind (heach { s with heap := h3 } (fun o e => ((sb3.trans sb4).2 b hnb).trans e) ?_)
      refine wpAny_bind (wpAny_setState_of (s := { s with heap := h3 }) kb hdb Tb.ft ?_)
      dsimp only
      refine wp_if_neg (by simp) ?_
      try refine wpAny_bind (wpAny_pure ?_)
      refine wpAny_pure ⟨done ++ [((mixKind P w).hash (vKey x2), x2)], js ++ [vKey x2], h3, by rw [e1, List.append_assoc]; rfl, rfl, sb3.trans sb4, R4, by rw [List.length_append, List.length_append]; simp; omega, fun k => ?_⟩
      rw [List.mem_append, List.mem_singleton, jm k, List.map_append, List.mem_append, List.map_cons, List.map_nil, List.mem_singleton, or_assoc]
    · obtain ⟨done, js, h', e1, rfl, sb3, Rj, jl, jm⟩ := hi
      rw [List.append_nil] at e1
      have mem : ∀ k, k ∈ js ↔ k ∈ ks ∨ k ∈ ls := fun k => by
        rw [jm k, ← e1]
        have := W.me k
        rw [← this]
      refine wpAny_pure (hQ h' js sb3 Rj ?_ mem (.inr ?_))
      · have := congrArg List.length e1
        rw [Array.length_toList] at this
        have := W.sz
        omega
      · obtain ⟨k, hk⟩ := hls
        exact ⟨k, (mem k).mpr (.inr hk)⟩
  · rw [if_neg hf]
    have hf0 : t1.fill = 0 := by simpa using hf
    have hes : es1.size = 0 := by
      unfold SetTable.fill at hf0
      omega
    have hnk := no_mem T1 hes
    obtain ⟨hst1, hst2⟩ : s.heap.get? a = some (nSet w) ∧ ks = [] := by
      rcases hst with z | ⟨k, hk⟩
      · exact z
      · exact absurd hk (hnk k)
    have mem : ∀ k, k ∈ ls ↔ k ∈ ks ∨ k ∈ ls := fun k => ⟨.inr, fun z => z.resolve_left (hnk k)⟩
    by_cases hm : (t1.mask == tb.mask && tb.dummies.isEmpty) = true
    · rw [if_pos hm]
      dsimp only
      refine wpAny_storeSet_of (s := { s with heap := h1 }) ho1 hd1 ?_ (by rw [sizeLine_eq]; omega)
      refine hQ _ ls (sb1.trans (Heap.SameBut.update ..)) ⟨_, eb, _, _, store_at ho1 hd1, ⟨hx1.1, hx1.2.1, hx1.2.2⟩, rfl, ?_⟩ (by omega) mem (.inr hls)
      exact { el := Tb.el, nd := Tb.nd, me := Tb.me, sz := Tb.sz, ft := Tb.ft, ri := Tb.ri, od := ord (l1 := true) (l2 := true) T1.od Tb.od }
    · rw [if_neg hm]
      dsimp only
      have hmk : Mk t1.mask ∧ eb.size ≤ t1.mask := by
        rcases hroom with ⟨e1, e2⟩ | z
        · rw [hst1] at ho
          cases ho
          have e3 : t = .fresh 0 0 (!w.params.followText "set-order") := by
            have : (nSet w).data = .set es ep t := hd
            injection this with _ _ q
            exact q.symm
          have e4 : t1.mask = 7 := by rw [e1, e3]; rfl
          have e5 : t.mask = 7 := by rw [e3]; rfl
          rw [e5] at e2
          rw [e4]
          exact ⟨.inl rfl, by omega⟩
        · exact z
      obtain ⟨t', order, e, q1, q2, q3, q4, q5, q6, q7⟩ := laid_mk hmk.1 (hs := eb.map (·.1)) (by rw [Array.size_map]; exact hmk.2) t1.finger t1.moves (t1.led && tb.led) (t1.plain && tb.plain)
      rw [Array.size_map] at q1 q7
      have hz2 : (order.filterMap (eb[·]?)).size = eb.size := by
        have := (filter_perm q1).length_eq
        rwa [Array.length_toList, Array.length_toList] at this
      rw [e]
      dsimp only
      refine wpAny_bind ?_
      refine wp_if_neg (by rw [hz2]; simp) ?_
      try refine wpAny_bind (wpAny_pure ?_)
      refine wpAny_pure ?_
      dsimp only
      refine wpAny_storeSet_of (s := { s with heap := h1 }) ho1 hd1 ?_ (by rw [hz2, sizeLine_eq]; omega)
      refine hQ _ ls (sb1.trans (Heap.SameBut.update ..)) ⟨_, _, _, t', store_at ho1 hd1, ⟨hx1.1, hx1.2.1, hx1.2.2⟩, rfl, ?_⟩ (by omega) mem (.inr hls)
      exact Tb.laid (filter_perm q1) q3 ((ord (l1 := true) (l2 := true) T1.od Tb.od).imp id fun z => by rw [q4]; exact z) q6 q7 (by rw [q2]; exact hmk.2)
end
end SE

/-! SO5: sets of keys: a - b, a | b, a != b. -/
namespace SE
open PySem PySem.Spec PyProof.Rows L2
open Builtin.Frozenset (isAnySet addrOf copyOf updateFrom slot1 sizeOf difference)
section
variable {P : Program} {w : World} {A : Around} {E : Value → Shared → Prop} {s : Shared} {a b : Addr} {ks ls : List Key}
theorem copy_ks (R : KS P w s.heap a ks) (h15 : ks.length ≤ 15) {Q : Value → Shared → Prop}
    (hQ : ∀ h' js, (∀ c o, s.heap.get? c = some o → h'.get? c = some o) → KS P w h' s.heap.objs.size js → js.length ≤ ks.length → (∀ k, k ∈ js ↔ k ∈ ks) → (h'.get? s.heap.objs.size = some (nSet w) ∧ js = [] ∨ ∃ k, k ∈ js) → Q (.ref s.heap.objs.size) { s with heap := h' }) :
    wpAny (model P w) A (copyOf a) Q E s := by
  unfold Builtin.Frozenset.copyOf
  refine wpAny_bind (base_ks R ?_)
  refine wpAny_bind (newSet_ks ?_)
  refine wpAny_bind (m := addrOf _) (wpAny_pure ?_)
  have kp : ∀ c o, s.heap.get? c = some o → (s.heap.push (nSet w)).get? c = some o := fun c o e => Heap.get?_push_of_some _ e
  have hS : (s.heap.push (nSet w)).get? s.heap.objs.size = some (nSet w) := Heap.get?_push_size _ rfl
  refine wpAny_bind (merge_ks (s := { s with heap := s.heap.push (nSet w) }) (ks_nil hS) (R.keep (kp a)) (Nat.ne_of_gt R.lt) (by simpa using h15) (.inl ⟨hS, rfl⟩) (fun s' _ Z hZ => wpAny_pure hZ) fun h' js sb Rj jl jm jn => ?_)
  refine wpAny_pure (hQ h' js (fun c o e => ?_) Rj (by simpa using jl) (fun k => by rw [jm k]; simp) jn)
  exact (sb.2 c (Nat.ne_of_lt (Heap.lt_size e))).trans (kp c o e)
theorem sub_eq (a b : Value) : Builtin.«frozenset.__sub__» ⟨[a, b], []⟩ = (do
    let (self, other) ← slot1 "__sub__" ⟨[a, b], []⟩
    let (l, r) := if false = true then (other, self) else (self, other)
    if !(← isAnySet l <&&> isAnySet r) then rule s!"frozenset.{"__sub__"}.declined"; return ← ret .notImplemented
    ret (← difference s!"frozenset.{"__sub__"}" (← addrOf l) r)) := by rfl
theorem or_eq (a b : Value) : Builtin.«frozenset.__or__» ⟨[a, b], []⟩ = (do
    let (self, other) ← slot1 "__or__" ⟨[a, b], []⟩
    let (l, r) := if false = true then (other, self) else (self, other)
    if !(← isAnySet l <&&> isAnySet r) then rule s!"frozenset.{"__or__"}.declined"; return ← ret .notImplemented
    ret (← (fun (id : String) (l : Addr) (r : Value) => (do
      let result ← copyOf l
      if r != .ref l then holding [result] (updateFrom id (← addrOf result) r)
      return result : Sem Value)) s!"frozenset.{"__or__"}" (← addrOf l) r)) := by rfl
theorem slot1_of {nm : String} {x y : Value} {Q : Value × Value → Shared → Prop} (h : Q (x, y) s) : wpAny (model P w) A (slot1 nm ⟨[x, y], []⟩) Q E s := by
  unfold Builtin.Frozenset.slot1 slotArgs
  exact wpAny_bind (wpAny_pure (wpAny_pure h))
theorem fz_sub (R : KS P w s.heap a ks) (R2 : KS P w s.heap b ls) (h7 : ks.length ≤ 7) (hne : ls ≠ []) (hl : ls.length < scanBound) {Q : Fin → Shared → Prop}
    (hQ : ∀ h' js, (∀ c o, s.heap.get? c = some o → h'.get? c = some o) → KS P w h' s.heap.objs.size js → js.length ≤ ks.length → (∀ k, k ∈ js ↔ k ∈ ks ∧ k ∉ ls) → Q (.done (.ret (.ref s.heap.objs.size))) { s with heap := h' }) :
    wpAny (model P w) A (Builtin.«frozenset.__sub__» ⟨[.ref a, .ref b], []⟩) Q E s := by
  rw [sub_eq]
  refine wpAny_bind (slot1_of ?_)
  dsimp only
  rw [if_neg (by simp)]
  dsimp only
  unfold andM
  refine wpAny_bind (wpAny_bind (anySet_ks R (anySet_ks R2 ?_)))
  refine wp_if_neg (by simp) ?_
  refine wpAny_bind (m := addrOf _) (wpAny_pure ?_)
  refine wpAny_bind (ks_diff R R2 h7 hne hl fun h' js k1 Rj jl jm => ?_)
  exact wpAny_pure (hQ h' js k1 Rj jl jm)
theorem fz_or (R : KS P w s.heap a ks) (R2 : KS P w s.heap b ls) (hne : a ≠ b) (h15 : ks.length + ls.length ≤ 15) {Q : Fin → Shared → Prop}
    (hQ : ∀ h' js, (∀ c o, s.heap.get? c = some o → h'.get? c = some o) → KS P w h' s.heap.objs.size js → js.length ≤ ks.length + ls.length → (∀ k, k ∈ js ↔ k ∈ ks ∨ k ∈ ls) → Q (.done (.ret (.ref s.heap.objs.size))) { s with heap := h' }) :
    wpAny (model P w) A (Builtin.«frozenset.__or__» ⟨[.ref a, .ref b], []⟩) Q E s := by
  rw [or_eq]
  refine wpAny_bind (slot1_of ?_)
  dsimp only
  rw [if_neg (by simp)]
  dsimp only
  unfold andM
  refine wpAny_bind (wpAny_bind (anySet_ks R (anySet_ks R2 ?_)))
  refine wp_if_neg (by simp) ?_
  refine wpAny_bind (m := addrOf (.ref a)) (wpAny_pure ?_)
  refine wpAny_bind ?_
  refine wpAny_bind (copy_ks R (by omega) fun h1 j1 k1 R1 l1 m1 n1 => ?_)
  have hn : b ≠ s.heap.objs.size := Nat.ne_of_lt R2.lt
  refine wp_if_pos (by simpa using Ne.symm hne) ?_
  refine wpAny_bind (m := addrOf (.ref s.heap.objs.size)) (wpAny_pure ?_)
  refine wpAny_bind (wpAny_holding ?_)
  unfold Builtin.Frozenset.updateFrom
  have R2' : KS P w h1 b ls := R2.keep (k1 b)
  refine wpAny_bind (anySet_ks (s := { s with heap := h1 }) R2' ?_)
  refine wp_if_pos rfl ?_
  refine wpAny_bind (m := addrOf (.ref b)) (wpAny_pure ?_)
  unfold Builtin.Frozenset.merge
  have R3 := R2'
  obtain ⟨ob, eb, epb, tb, hob, hxb, hdb, Tb⟩ := R3
  refine wpAny_bind (wpAny_setEpoch_of (s := { s with heap := h1 }) hob hdb Tb.ft ?_)
  refine merge_ks (s := { s with heap := h1 }) R1 R2' (Ne.symm hn) (by omega) n1 (fun s' kb Z hZ => ?_) fun h2 js sb Rj jl jm _ => ?_
  · unfold Builtin.Frozenset.unchanged
    refine wpAny_bind (wpAny_setEpoch_of (kb _ hob) hdb Tb.ft ?_)
    refine wp_if_neg (by simp) ?_
    exact wpAny_pure hZ
  · refine wpAny_pure (wpAny_pure (hQ h2 js (fun c o e => (sb.2 c (Nat.ne_of_lt (Heap.lt_size e))).trans (k1 c o e)) Rj (by omega) fun k => ?_))
    rw [jm k, m1 k]
theorem walkUn_ks (R : KS P w s.heap a ks) (R2 : KS P w s.heap b ls) {Q : List (Int × Value) → Shared → Prop} (h : ∀ es : Array (Int × Value), Wk P w es ks → Q es.toList s) : wpAny (model P w) A (Builtin.Frozenset.walkUnseen a b) Q E s := by
  unfold Builtin.Frozenset.walkUnseen
  obtain ⟨oa, ea, epa, ta, hoa, hxa, hda, Ta⟩ := R
  obtain ⟨ob, eb, epb, tb, hob, hxb, hdb, Tb⟩ := R2
  refine wpAny_bind (wpAny_setEntries_of hoa hda Ta.ft ?_)
  refine wpAny_bind (wpAny_setEntries_of hob hdb Tb.ft ?_)
  refine wpAny_bind (wpAny_forIn_list _ (fun rest b s' => s' = s ∧ (∀ e ∈ rest, e.2.scannable = true) ∧ b = ⟨none, ⟨⟩⟩) _ (fun x rest b s' hi => ?_) (fun b s' hi => ?_) _ _ ⟨rfl, fun e he => ?_, rfl⟩)
  · obtain ⟨rfl, hx, rfl⟩ := hi
    have h5 := scan_noref (hx x List.mem_cons_self)
    obtain ⟨x1, x2⟩ := x
    simp only at h5
    have hq : ∀ {Z : Bool → Shared → Prop}, Z true s' → wpAny (model P w) A (Builtin.Frozenset.quietEq x2) Z E s' := fun {Z} hZ => by
      unfold Builtin.Frozenset.quietEq
      cases x2 with
      | ref c => exact absurd rfl (h5 c)
      | _ => exact wpAny_pure hZ
    refine wpAny_bind (hq ?_)
    refine wp_if_neg (by simp) ?_
    exact wpAny_pure ⟨rfl, fun e he => hx e (List.mem_cons_of_mem _ he), rfl⟩
  · obtain ⟨rfl, _, rfl⟩ := hi
    exact wpAny_pure (h ea Ta.wk)
  · rcases List.mem_append.mp he with z | z
    · exact (Ta.el e z).2
    · exact (Tb.el e z).2
/-- whether all of a are of b -/
theorem subset_ks {id : String} (R : KS P w s.heap a ks) (R2 : KS P w s.heap b ls) (hl : ls.length < scanBound) {Q : Bool → Shared → Prop} (h : ∀ r, (r = true ↔ ∀ k ∈ ks, k ∈ ls) → Q r s)
    (hsz : ∀ ea eb : Array (Int × Value), Wk P w ea ks → Wk P w eb ls → (∀ k ∈ ks, k ∈ ls) → ea.size ≤ eb.size) :
    wpAny (model P w) A (Builtin.Frozenset.subsetOf id a b) Q E s := by
  unfold Builtin.Frozenset.subsetOf
  refine wpAny_bind (size_ks R fun ea Wa => ?_)
  refine wpAny_bind (size_ks R2 fun eb Wb => ?_)
  by_cases c : ea.size > eb.size
  · refine wp_if_pos c ?_
    refine wpAny_pure (h false ⟨fun z => (by cases z), fun z => absurd (hsz ea eb Wa Wb z) (by omega)⟩)
  refine wp_if_neg c ?_
  have R' := R
  obtain ⟨oa, e1, epa, ta, hoa, hxa, hda, Ta⟩ := R'
  refine wpAny_bind (wpAny_setEpoch_of hoa hda Ta.ft ?_)
  refine wpAny_bind (walkUn_ks R R2 fun es W => ?_)
  refine wpAny_bind (wpAny_forIn_list _ (fun rest b s' => s' = s ∧ b = ⟨none, ⟨⟩⟩ ∧ ∃ done, es.toList = done ++ rest ∧ ∀ e ∈ done, vKey e.2 ∈ ls) _ (fun x rest b s' hi => ?_) (fun b s' hi => ?_) _ _ ⟨rfl, rfl, [], rfl, by simp⟩)
  · obtain ⟨rfl, rfl, done, e2, hd⟩ := hi
    obtain ⟨x1, x2⟩ := x
    have hmem : (x1, x2) ∈ es.toList := by rw [e2]; simp
    obtain ⟨hx1, hx2⟩ := W.at_ hmem
    simp only at hx1 hx2
    subst hx2
    refine wpAny_bind (wpAny_holding (ks_find R2 hl hx1 fun r hr => ?_))
    cases r with
    | none =>
      refine wp_if_pos rfl ?_
      refine wpAny_pure (wpAny_pure (h false ⟨fun z => (by cases z), fun z => ?_⟩))
      have hk : vKey x2 ∈ ks := (W.me _).mp (List.mem_map.mpr ⟨_, hmem, rfl⟩)
      have := hr.mpr (z _ hk)
      cases this
    | some j =>
      refine wp_if_neg (by simp) ?_
      unfold Builtin.Frozenset.unchanged
      refine wpAny_bind (wpAny_bind (wpAny_setEpoch_of hoa hda Ta.ft ?_))
      refine wp_if_neg (by simp) ?_
      refine wpAny_pure (wpAny_pure ⟨rfl, rfl, done ++ [((mixKind P w).hash (vKey x2), x2)], by rw [e2, List.append_assoc]; rfl, fun e he => ?_⟩)
      rcases List.mem_append.mp he with z | z
      · exact hd e z
      · rw [List.mem_singleton.mp z]
        exact hr.mp rfl
  · obtain ⟨rfl, rfl, done, e2, hd⟩ := hi
    rw [List.append_nil] at e2
    refine wpAny_pure (h true ⟨fun _ k hk => ?_, fun _ => rfl⟩)
    obtain ⟨e, he, rfl⟩ := List.mem_map.mp ((W.me k).mpr hk)
    exact hd e (by rw [← e2]; exact he)
theorem sub_len {α : Type} : ∀ (l m : List α), l.Nodup → (∀ x ∈ l, x ∈ m) → l.length ≤ m.length
  | [], _, _, _ => Nat.zero_le _
  | x :: l, m, hn, hs => by
    classical
    obtain ⟨h1, h2⟩ := List.nodup_cons.mp hn
    have hx := hs x List.mem_cons_self
    have := sub_len l (m.erase x) h2 fun y hy => (List.mem_erase_of_ne (fun e : y = x => h1 (by rw [← e]; exact hy))).mpr (hs y (List.mem_cons_of_mem _ hy))
    rw [List.length_erase_of_mem hx] at this
    have h0 := List.length_pos_of_mem hx
    rw [List.length_cons]
    omega
theorem fz_ne (R : KS P w s.heap a ks) (R2 : KS P w s.heap b ls) (hl : ls.length < scanBound) {Q : Fin → Shared → Prop} (h : ∀ r : Bool, (r = true ↔ ¬ ∀ k, k ∈ ks ↔ k ∈ ls) → Q (.done (.ret (.bool r))) s) :
    wpAny (model P w) A (Builtin.«frozenset.__ne__» ⟨[.ref a, .ref b], []⟩) Q E s := by
  unfold Builtin.«frozenset.__ne__»
  show wpAny _ _ (slot1 "__ne__" _ >>= _) _ _ _
  refine wpAny_bind (slot1_of ?_)
  dsimp only
  refine wpAny_bind (anySet_ks R2 ?_)
  refine wp_if_neg (by simp) ?_
  refine wpAny_bind (m := addrOf (.ref a)) (wpAny_pure ?_)
  refine wpAny_bind (m := addrOf (.ref b)) (wpAny_pure ?_)
  refine wpAny_bind (size_ks R fun ea Wa => ?_)
  refine wpAny_bind (size_ks R2 fun eb Wb => ?_)
  have le : ∀ {e1 e2 : Array (Int × Value)} {k1 k2 : List Key}, Wk P w e1 k1 → Wk P w e2 k2 → (∀ k ∈ k1, k ∈ k2) → e1.size ≤ e2.size := fun {e1 e2 k1 k2} W1 W2 hs => by
    have := sub_len (inT e1) (inT e2) W1.nd fun k hk => (W2.me k).mpr (hs k ((W1.me k).mp hk))
    rwa [List.length_map, List.length_map, Array.length_toList, Array.length_toList] at this
  refine wpAny_bind ?_
  by_cases c : (ea.size != eb.size) = true
  · refine wp_if_pos c ?_
    refine wpAny_pure (wpAny_pure (h _ ⟨fun _ hall => ?_, fun _ => rfl⟩))
    have e1 := le Wa Wb fun k hk => (hall k).mp hk
    have e2 := le Wb Wa fun k hk => (hall k).mpr hk
    simp at c
    omega
  refine wp_if_neg c ?_
  have hsz : ea.size = eb.size := by simpa using c
  unfold andM
  refine wpAny_bind (wpAny_bind (wpAny_isInstance (b := false) R.typeIs (by rw [isSubtype_type]; kernel_rfl) ?_))
  refine wpAny_pure ?_
  refine wp_if_neg (by simp) ?_
  refine subset_ks R R2 hl (fun r hr => wpAny_pure (h _ ?_)) (fun e1 e2 W1 W2 hs => le W1 W2 hs)
  cases r with
  | true =>
    refine ⟨fun z => (by cases z), fun z => absurd (fun k => ⟨hr.mp rfl k, fun hk => ?_⟩) z⟩
    classical
    refine Classical.byContradiction fun hn => ?_
    have hk' := (Wb.me k).mpr hk
    have hn' : k ∉ inT ea := fun q => hn ((Wa.me k).mp q)
    have := sub_len (k :: inT ea) (inT eb) (List.nodup_cons.mpr ⟨hn', Wa.nd⟩) fun x hx => by
      rcases List.mem_cons.mp hx with z | z
      · rw [z]; exact hk'
      · exact (Wb.me x).mpr (hr.mp rfl x ((Wa.me x).mp z))
    rw [List.length_cons, List.length_map, List.length_map, Array.length_toList, Array.length_toList] at this
    omega
  | false =>
    refine ⟨fun _ hall => ?_, fun _ => rfl⟩
    have := hr.mpr fun k hk => (hall k).mp hk
    cases this
end
end SE

/-! PLn: sets of keys as things of the layer: set(..), {x}, a - b, a | b, a != b. -/
namespace L2
open PySem PySem.Spec PySem.Calls PyProof.Rows
noncomputable def KSO (P : Program) (w : World) (a : Addr) (ks : List Key) : HO := .ext fun h => SE.KS P w h a ks
theorem ksO_new {P : Program} {w : World} {H : Hp} {h : Heap} {a : Addr} {ks : List Key} (R : SE.KS P w h a ks) : ObjOk P w H h a (KSO P w a ks) := by
  have R' := R
  obtain ⟨o, es, ep, t, ho, r⟩ := R'
  exact ⟨R, ⟨o, ho⟩, fun h1 h2 R1 k => SE.KS.keep R1 k⟩
section
variable {X : Cx} {a b : Addr} {ks ls : List Key}
theorem ksO_get {pins : List (Addr × Obj)} {σ : St} {H : Hp} {s : Shared} (I : Inv X pins σ H s) (e : H a = some (KSO X.prog X.w a ks)) : SE.KS X.prog X.w s.heap a ks :=
  (show ObjOk X.prog X.w H s.heap a (KSO X.prog X.w a ks) from I.hok a _ e).1
/-- set(x), x a list or a tuple of numbers or texts -/
noncomputable def rSetKs (X : Cx) : List V → Hp → VK → Prop := fun xs H Q => ∃ (b : Bool) (l : Addr) (ks : List Key), xs = [.ref l] ∧ cond b (SqL X.K H l (ks.map kV)) (SqT X.K H l (ks.map kV)) ∧ ks.length + 1 < 4096 ∧ ∀ p, H p = none → Q (.ref p) (upd H p (KSO X.prog X.w p ks))
theorem cr_setKs (hc : X.calm = true) : CallR X (.type "set") (rSetKs X) := by
  intro pins s σ H xs us Q I r h
  obtain ⟨b, l, ks, rfl, hq, hz, q⟩ := h
  obtain ⟨u, rfl, rx⟩ := vals1 r
  cases rx
  have hd := I.ok.hd hc
  have fin : ∀ {its : List Value}, Vals (ks.map kV) its → cond b (s.heap.IsList l its.toArray) (s.heap.IsTuple l its.toArray) → wpAny (model X.prog X.w) X.A (call (.type "set") [.ref l]) (EP X pins σ Q) X.xe s := fun {its} rv hl => by
    have ee := PL.each_is (P := X.prog) (w := X.w) rv
    have hlen : its.length = ks.length := ee.length
    refine SE.call_set (ks := ks) hd hl (by rw [List.size_toArray]; exact hlen) (fun i v hv => ?_) (by unfold scanBound; omega) fun h' tk R kp => ?_
    · have hi : i < ks.length := by
        have := (Array.getElem?_eq_some_iff.mp hv).1
        rw [List.size_toArray] at this; omega
      refine ⟨ks[i], List.getElem?_eq_getElem hi, ?_⟩
      exact PL.each_at ee i v ks[i] (by simpa using hv) (List.getElem?_eq_getElem hi)
    · exact ⟨.ref s.heap.objs.size, _, I.laid (t' := tk) kp (Nat.le_refl _) (ksO_new R), rfl, q _ (I.hok.fresh (Nat.le_refl _))⟩
  cases b with
  | true =>
    obtain ⟨its, rv, pl, _⟩ := I.list hq
    exact fin rv pl.isList
  | false =>
    obtain ⟨its, rv, pl, _⟩ := I.tuple hq
    exact fin rv pl
theorem sub_entry : entryFor table "set.__sub__" = some Builtin.«frozenset.__sub__» := entryFor_alias (id' := "frozenset.__sub__") (by kernel_rfl) rfl (by decide +kernel) (by kernel_rfl)
theorem or_entry : entryFor table "set.__or__" = some Builtin.«frozenset.__or__» := entryFor_alias (id' := "frozenset.__or__") (by kernel_rfl) rfl (by decide +kernel) (by kernel_rfl)
theorem ne_entry : entryFor table "set.__ne__" = some Builtin.«frozenset.__ne__» := entryFor_alias (id' := "frozenset.__ne__") (by kernel_rfl) rfl (by decide +kernel) (by kernel_rfl)
noncomputable def rSubKs (X : Cx) : R2 := fun x y H Q => ∃ (a b : Addr) (ks ls : List Key), x = .ref a ∧ y = .ref b ∧ H a = some (KSO X.prog X.w a ks) ∧ H b = some (KSO X.prog X.w b ls) ∧ ks.length ≤ 7 ∧ ls ≠ [] ∧ ls.length < 4096 ∧
  ∀ (p : Addr) (js : List Key), H p = none → js.length ≤ ks.length → (∀ k, k ∈ js ↔ k ∈ ks ∧ k ∉ ls) → Q (.ref p) (upd H p (KSO X.prog X.w p js))
theorem op_subKs : OpR X (binaryOp .Sub) (rSubKs X) := by
  intro pins s σ H x y v u Q I rx ry h
  obtain ⟨a, b, ks, ls, rfl, rfl, ha, hb, h7, hne, hl, q⟩ := h
  cases rx
  cases ry
  have Ra := ksO_get I ha
  have Rb := ksO_get I hb
  refine wpAny_binaryOp_same (T := "set") (id := "set.__sub__") Ra.typeIs Rb.typeIs F.fills_set_sub F.slot_set_sub (wpAny_call_entry F.slot_set_sub Ra.typeIs sub_entry ?_ (F.args_set_sub_2 _ _))
  exact SE.fz_sub Ra Rb h7 hne hl fun h' js kp Rj jl jm => ⟨_, rfl, (fun z => nomatch z), .ref s.heap.objs.size, _, I.laid (t' := s.toks) kp (Nat.le_refl _) (ksO_new Rj), rfl, q _ js (I.hok.fresh (Nat.le_refl _)) jl jm⟩
noncomputable def rOrKs (X : Cx) : R2 := fun x y H Q => ∃ (a b : Addr) (ks ls : List Key), x = .ref a ∧ y = .ref b ∧ H a = some (KSO X.prog X.w a ks) ∧ H b = some (KSO X.prog X.w b ls) ∧ a ≠ b ∧ ks.length + ls.length ≤ 15 ∧
  ∀ (p : Addr) (js : List Key), H p = none → js.length ≤ ks.length + ls.length → (∀ k, k ∈ js ↔ k ∈ ks ∨ k ∈ ls) → Q (.ref p) (upd H p (KSO X.prog X.w p js))
theorem op_orKs : OpR X (binaryOp .BitOr) (rOrKs X) := by
  intro pins s σ H x y v u Q I rx ry h
  obtain ⟨a, b, ks, ls, rfl, rfl, ha, hb, hne, h15, q⟩ := h
  cases rx
  cases ry
  have Ra := ksO_get I ha
  have Rb := ksO_get I hb
  refine wpAny_binaryOp_same (T := "set") (id := "set.__or__") Ra.typeIs Rb.typeIs F.fills_set_or F.slot_set_or (wpAny_call_entry F.slot_set_or Ra.typeIs or_entry ?_ (F.args_set_or_2 _ _))
  exact SE.fz_or Ra Rb hne h15 fun h' js kp Rj jl jm => ⟨_, rfl, (fun z => nomatch z), .ref s.heap.objs.size, _, I.laid (t' := s.toks) kp (Nat.le_refl _) (ksO_new Rj), rfl, q _ js (I.hok.fresh (Nat.le_refl _)) jl jm⟩
noncomputable def rNeKs (X : Cx) : R2 := fun x y H Q => ∃ (a b : Addr) (ks ls : List Key), x = .ref a ∧ y = .ref b ∧ H a = some (KSO X.prog X.w a ks) ∧ H b = some (KSO X.prog X.w b ls) ∧ ls.length < 4096 ∧
  ∀ r : Bool, (r = true ↔ ¬ ∀ k, k ∈ ks ↔ k ∈ ls) → Q (.bl r) H
theorem op_neKs (hu : X.A.units < cLine) : OpR X (compareOp .NotEq) (rNeKs X) := by
  intro pins s σ H x y v u Q I rx ry h
  obtain ⟨a, b, ks, ls, rfl, rfl, ha, hb, hl, q⟩ := h
  cases rx
  cases ry
  have Ra := ksO_get I ha
  have Rb := ksO_get I hb
  show wpAny _ _ (richCompare .NotEq _ _) _ _ _
  refine wpAny_richCompare_same_room (T := "set") (id := "set.__ne__") Ra.typeIs Rb.typeIs F.slot_set_ne (wpAny_call_entry F.slot_set_ne Ra.typeIs ne_entry ?_ (F.args_set_ne_2 _ _)) hu
  exact SE.fz_ne Ra Rb hl fun r hr => ⟨_, rfl, (fun z => nomatch z), .bl r, H, I, rfl, q r hr⟩
/-- {x} -/
noncomputable def tDisp1 (X : Cx) (t : TE) : TE := fun σ H Q => ∀ D, H D = none → t σ (upd H D (KSO X.prog X.w D [])) fun x H1 => ∃ k, x = kV k ∧ H1 D = some (KSO X.prog X.w D []) ∧ Q (.ref D) (upd H1 D (KSO X.prog X.w D [k]))
theorem pe_disp1 {e : Expr} {t : TE} {pos : Pos} (hcd : PySem.W.kdsCode X.K X.env.code = true) (hp : PySem.W.kdsPlain e = true) (he : PE X e t) : PE X (.Set [e] 0 pos) (tDisp1 X t) := by
  refine ⟨fun pins s σ H Q I h => ?_⟩
  rw [arm_eval_Set]
  refine wpAny_bind (wpAny_standAt ?_)
  refine wpAny_bind (PySem.W.kds_main I.kIn hcd fun b => ?_)
  rw [PySem.W.kds_star [e] (by rw [List.all_cons, hp]; rfl), List.map_map]
  unfold setDisplay
  refine wp_if_neg (by simp [displayRoad]) ?_
  refine wpAny_bind (SE.newSet_ks ?_)
  have e1 : evalEach [e] X.env = [eval e X.env] := by rw [arm_evalEach_cons]; rfl
  rw [e1]
  have e2 : List.map ((fun x : Bool × Sem Value => match x with | (star, t) => (star, (do let v ← t; standAt pos; pure v : Sem Value))) ∘ fun t => (false, t)) [eval e X.env] = [(false, (do let v ← eval e X.env; standAt pos; pure v : Sem Value))] := rfl
  rw [e2]
  have e3 : (if [(false, (do let v ← eval e X.env; standAt pos; pure v : Sem Value))].length > 30 then 0 else (List.findIdx? (fun x => x.fst) [(false, (do let v ← eval e X.env; standAt pos; pure v : Sem Value))]).getD [(false, (do let v ← eval e X.env; standAt pos; pure v : Sem Value))].length) = 1 := rfl
  rw [e3]
  dsimp only [List.take, List.drop, List.map]
  refine wpAny_bind (wpAny_holding ?_)
  have hn : H s.heap.objs.size = none := I.hok.fresh (Nat.le_refl _)
  have I0 : Inv X pins σ (upd H s.heap.objs.size (KSO X.prog X.w s.heap.objs.size [])) { s with heap := s.heap.push (SE.nSet X.w), toks := s.toks } :=
    I.laid (fun b o z => Heap.get?_push_of_some _ z) (Nat.le_refl _) (ksO_new (SE.ks_nil (Heap.get?_push_size _ rfl)))
  refine wpAny_bind ?_
  show wpAny _ _ (((eval e X.env >>= fun v => standAt pos >>= fun _ => pure v) >>= fun v => holding [v] (evalAll []) >>= fun r => pure (v :: r))) _ _ _
  refine wpAny_bind (wpAny_bind (thn (he.run pins _ σ _ _ I0 (h _ hn)) fun v s1 ⟨x, H1, I1, r1, k, hx, hD, q⟩ => ?_))
  subst hx
  refine wpAny_bind (wpAny_standAt (wpAny_pure ?_))
  refine wpAny_bind (wpAny_holding (wpAny_pure ?_))
  refine wpAny_pure ?_
  refine wpAny_bind (wpAny_holding ?_)
  have hk : (mixKind X.prog X.w).is k v = true := kV_is (P := X.prog) (w := X.w) r1
  rw [List.forIn_cons]
  refine wpAny_bind (wpAny_bind ?_)
  refine wpAny_bind ?_
  unfold setAdd
  refine wpAny_holding (wpAny_bind ((mixKind X.prog X.w).pyHash hk ?_))
  have RD : SE.KS X.prog X.w s1.heap s.heap.objs.size [] := ksO_get I1 hD
  refine SE.ks_add (s := { s1 with toks := s1.toks + 1 }) RD hk (by unfold scanBound; decide) fun b h' sb R => ?_
  have hex : ∃ u, h'.get? s.heap.objs.size = some u := by
    have R' := R
    obtain ⟨o, _, _, _, ho, _⟩ := R'
    exact ⟨o, ho⟩
  refine wpAny_pure ?_
  rw [List.forIn_nil]
  refine wpAny_pure ?_
  refine wp_if_neg (by simp [displayRoad]) ?_
  refine wpAny_pure ?_
  try rw [List.forIn_nil]
  refine wpAny_bind (wpAny_pure (wpAny_pure (wpAny_pure ?_)))
  exact ⟨.ref s.heap.objs.size, _, I1.write (e := s.heap.objs.size) (t' := s1.toks + 1) (by rw [hD]; trivial) (.inl rfl) (fun c u hc hu => (sb.2 c hc).trans hu) hex (ksO_new R), rfl, q⟩
end
end L2

/-! PL8b: if set(a) != set(b) - {x} | set(d). -/
namespace PL
open PySem L2
section
variable {K : PySem.W.Frag} {w : Wd}
theorem Wd.stay {w w' : Wd} (hw : w.le w') {a : Addr} {o : HO} (e : w.H a = some o) (n : some a ∉ w.m) : w'.H a = some o ∧ some a ∉ w'.m := ⟨hw.keep _ _ e n, notin_of hw e n⟩
/-- keys that are these texts -/
noncomputable def KM (ks : List L2.Key) (ts : List (List Nat)) : Prop := ∃ ys : List Str, ks = ys.map Sum.inr ∧ ys.map (fun z => z.cps.toList) = ts
theorem KM.mem {ks : List L2.Key} {ts : List (List Nat)} (h : KM ks ts) (k : L2.Key) : k ∈ ks ↔ ∃ z : Str, k = .inr z ∧ z.cps.toList ∈ ts := by
  obtain ⟨ys, rfl, rfl⟩ := h
  constructor
  · intro hk
    obtain ⟨z, hz, rfl⟩ := List.mem_map.mp hk
    exact ⟨z, rfl, List.mem_map.mpr ⟨z, hz, rfl⟩⟩
  · rintro ⟨z, rfl, hz⟩
    obtain ⟨y, hy, e⟩ := List.mem_map.mp hz
    rw [← cps_inj y z e]
    exact List.mem_map.mpr ⟨y, hy, rfl⟩
theorem KM.len {ks : List L2.Key} {ts : List (List Nat)} (h : KM ks ts) : ks.length = ts.length := by
  obtain ⟨ys, rfl, rfl⟩ := h
  rw [List.length_map, List.length_map]
theorem KM.get {ks : List L2.Key} {ts : List (List Nat)} (h : KM ks ts) {t : List Nat} (ht : t ∈ ts) : ∃ z : Str, .inr z ∈ ks ∧ z.cps.toList = t := by
  obtain ⟨ys, rfl, rfl⟩ := h
  obtain ⟨z, hz, e⟩ := List.mem_map.mp ht
  exact ⟨z, List.mem_map.mpr ⟨z, hz, rfl⟩, e⟩
theorem strT_rep {n : Nat} {x : PV} {u : V} {ts : List (List Nat)} (r : Rep K w x u) (h : strT n x = some ts) : ∃ (l : Addr) (ks : List L2.Key), u = .ref l ∧ SqT K w.H l (ks.map kV) ∧ KM ks ts ∧ ts.length ≤ n := by
  cases x with
  | tup xs =>
    simp only [strT, Option.ite_none_right_eq_some] at h
    obtain ⟨h1, h2⟩ := h
    obtain ⟨l, us, rfl, hq, rr⟩ := r.tup_inv
    obtain ⟨ys, rfl, e, _⟩ := reps_strs rr h2
    have hl := rr.length
    refine ⟨l, ys.map Sum.inr, rfl, by rw [kV_strs]; exact hq.sq, ⟨ys, rfl, e⟩, ?_⟩
    rw [← e, List.length_map]
    rw [List.length_map] at hl
    omega
  | _ => cases h
/-- what the sets say is what the texts say -/
theorem scB_iff {k1 k2 k4 k5 k6 : List L2.Key} {xs ys us : List (List Nat)} {z : Str} (m1 : KM k1 xs) (m2 : KM k2 ys) (m4 : KM k4 us) (h5 : ∀ k, k ∈ k5 ↔ k ∈ k2 ∧ k ∉ ([.inr z] : List L2.Key)) (h6 : ∀ k, k ∈ k6 ↔ k ∈ k5 ∨ k ∈ k4) :
    scB xs ys z.cps.toList us = true ↔ ¬ ∀ k, k ∈ k1 ↔ k ∈ k6 := by
  have hr : ∀ v : Str, (.inr v : L2.Key) ∈ k6 ↔ v.cps.toList ∈ (ys.filter fun y => decide (y ≠ z.cps.toList)) ++ us := fun v => by
    rw [h6, h5, m2.mem, m4.mem, List.mem_append, List.mem_filter, List.mem_singleton]
    constructor
    · rintro (⟨⟨y, e, hy⟩, hn⟩ | ⟨y, e, hy⟩)
      · cases e
        exact .inl ⟨hy, by simp only [decide_eq_true_eq]; exact fun q => hn (by rw [cps_inj _ _ q])⟩
      · cases e; exact .inr hy
    · rintro (⟨hy, hn⟩ | hy)
      · exact .inl ⟨⟨v, rfl, hy⟩, fun q => by cases q; simp at hn⟩
      · exact .inr ⟨v, rfl, hy⟩
  have hl : ∀ v : Str, (.inr v : L2.Key) ∈ k1 ↔ v.cps.toList ∈ xs := fun v => by
    rw [m1.mem]
    constructor
    · rintro ⟨y, e, hy⟩; cases e; exact hy
    · intro hy; exact ⟨v, rfl, hy⟩
  have h6r : ∀ k, k ∈ k6 → ∃ v : Str, k = .inr v := fun k hk => by
    rcases (h6 k).mp hk with q | q
    · obtain ⟨v, e, _⟩ := (m2.mem k).mp ((h5 k).mp q).1
      exact ⟨v, e⟩
    · obtain ⟨v, e, _⟩ := (m4.mem k).mp q
      exact ⟨v, e⟩
  have main : (∀ k, k ∈ k1 ↔ k ∈ k6) ↔ (xs.all (fun x => decide (x ∈ (ys.filter fun y => decide (y ≠ z.cps.toList)) ++ us)) && ((ys.filter fun y => decide (y ≠ z.cps.toList)) ++ us).all fun y => decide (y ∈ xs)) = true := by
    rw [Bool.and_eq_true, List.all_eq_true, List.all_eq_true]
    constructor
    · intro h
      refine ⟨fun x hx => ?_, fun y hy => ?_⟩
      · obtain ⟨v, hv, rfl⟩ := m1.get hx
        exact decide_eq_true ((hr v).mp ((h _).mp hv))
      · have : ∃ v : Str, (.inr v : L2.Key) ∈ k6 ∧ v.cps.toList = y := by
          rcases List.mem_append.mp hy with q | q
          · obtain ⟨v, hv, e⟩ := m2.get (List.mem_filter.mp q).1
            exact ⟨v, (hr v).mpr (by rw [e]; exact hy), e⟩
          · obtain ⟨v, hv, e⟩ := m4.get q
            exact ⟨v, (hr v).mpr (by rw [e]; exact hy), e⟩
        obtain ⟨v, hv, rfl⟩ := this
        exact decide_eq_true ((hl v).mp ((h _).mpr hv))
    · rintro ⟨g1, g2⟩ k
      constructor
      · intro hk
        obtain ⟨v, rfl, hv⟩ := (m1.mem k).mp hk
        exact (hr v).mpr (of_decide_eq_true (g1 _ hv))
      · intro hk
        obtain ⟨v, rfl⟩ := h6r k hk
        exact (hl v).mpr (of_decide_eq_true (g2 _ ((hr v).mp hk)))
  rw [main]
  unfold scB
  simp only [Bool.not_eq_true', Bool.not_eq_true]
end
section
variable {X : Cx} {cl : Nat → Value} {W : WX} {cf : CF}
theorem s_isc {ea eb ec ed : Expr} {pa pb pd : PX} {i : Nat} {sa sb : List Stmt} {qa qb : PS} {p1 p2 p3 p4 p5 p6 p7 p8 p9 p10 pos : Pos} (hcalm : X.calm = true) (hu : X.A.units < cLine) (hcd : PySem.W.kdsCode X.K X.env.code = true) (hg : Gl X "set") (hm : X.mg "set" = none)
    (ha : L2.PE X ea (rdE X.K cl W cf pa)) (hb : L2.PE X eb (rdE X.K cl W cf pb)) (hc : L2.PE X ec (tVar i)) (hd : L2.PE X ed (rdE X.K cl W cf pd)) (hp : PySem.W.kdsPlain ec = true)
    (ea1 : starEach [ea] X.env = (false, eval ea X.env) :: starEach [] X.env) (eb1 : starEach [eb] X.env = (false, eval eb X.env) :: starEach [] X.env) (ed1 : starEach [ed] X.env = (false, eval ed X.env) :: starEach [] X.env)
    (h1 : L2.PSs X sa (rdS X.K cl W cf qa)) (h2 : L2.PSs X sb (rdS X.K cl W cf qb)) :
    L2.PS X (.If (.Compare (.Call (.Name "set" p1) [ea] [] p2) [.NotEq] [.BinOp (.BinOp (.Call (.Name "set" p3) [eb] [] p4) .Sub (.Set [ec] 0 p5) p6) .BitOr (.Call (.Name "set" p7) [ed] [] p8) p9] p10) sa sb pos) (rdS X.K cl W cf (.isc pa pb i pd qa qb)) := by
  have hset : ∀ {e : Expr} {pe : PX} {q1 q2 : Pos}, L2.PE X e (rdE X.K cl W cf pe) → starEach [e] X.env = (false, eval e X.env) :: starEach [] X.env → L2.PE X (.Call (.Name "set" q1) [e] [] q2) (tCB (rSetKs X) (tCons (rdE X.K cl W cf pe) tNil)) :=
    fun he hse => pe_callTy (cr_setKs hcalm) hg hm PyProof.Rows.boot_set (pa_cons he pa_nil hse) (by decide) (by decide) hse rfl
  refine PSimp (ps_if (pt_cmpR (op_neKs hu) (hset ha ea1) (pe_op op_orKs (pe_op op_subKs (hset hb eb1) (pe_disp1 hcd hp hc)) (hset hd ed1)) rfl) h1 h2) fun D σ H _ h => ?_
  obtain ⟨w, e, st, rfl, he, hs, h⟩ := h
  simp only [run] at h
  -- the first set
  refine ⟨w, e, st, rfl, he, hs, (RdO.out he h).mono fun x1 H1 hQ => ?_⟩
  obtain ⟨w1, v1, st1, e1, hw1, hs1, r1, h⟩ := hQ
  subst e1
  replace he := he.mono hw1
  cases hk1 : strT 1000 v1 with
  | none => rw [hk1] at h; exact h.elim
  | some xs =>
  rw [hk1] at h
  simp only [Res.ofO, Res.out] at h
  obtain ⟨l1, ks1, rfl, hq1, m1, hz1⟩ := strT_rep r1 hk1
  refine ⟨false, l1, ks1, rfl, hq1, by rw [m1.len]; omega, fun P1 hP1 => ?_⟩
  have le1 := Wd.put_le (w := w1) (p := P1) (o := KSO X.prog X.w P1 ks1) hP1
  have at1 : (w1.put P1 (KSO X.prog X.w P1 ks1)).H P1 = some (KSO X.prog X.w P1 ks1) := upd_same
  replace hs := hs1.put (o := KSO X.prog X.w P1 ks1) hP1
  have n1 : some P1 ∉ (w1.put P1 (KSO X.prog X.w P1 ks1)).m := hs1.new hP1
  replace h := h.up le1
  replace he := he.mono le1
  have le0 := hw1.trans le1
  show (tOp (rOrKs X) (tOp (rSubKs X) (tCB (rSetKs X) (tCons (rdE X.K cl W cf pb) tNil)) (tDisp1 X (tVar i))) (tCB (rSetKs X) (tCons (rdE X.K cl W cf pd) tNil))) σ (w1.put P1 (KSO X.prog X.w P1 ks1)).H _
  generalize w1.put P1 (KSO X.prog X.w P1 ks1) = w2 at *
  clear hP1
  -- the second set
  refine ⟨w2, e, st1, rfl, he, hs, (RdO.out he h).mono fun x2 H2 hQ => ?_⟩
  obtain ⟨w3, v2, st2, e2, hw3, hs3, r2, h⟩ := hQ
  subst e2
  replace he := he.mono hw3
  obtain ⟨at1, n1⟩ := Wd.stay hw3 at1 n1
  cases hk2 : strT 7 v2 with
  | none => rw [hk2] at h; exact h.elim
  | some ys =>
  rw [hk2] at h
  simp only at h
  obtain ⟨l2, ks2, rfl, hq2, m2, hz2⟩ := strT_rep r2 hk2
  refine ⟨false, l2, ks2, rfl, hq2, by rw [m2.len]; omega, fun P2 hP2 => ?_⟩
  have le2 := Wd.put_le (w := w3) (p := P2) (o := KSO X.prog X.w P2 ks2) hP2
  have n12 : P1 ≠ P2 := ne_of_none at1 hP2
  have at2 : (w3.put P2 (KSO X.prog X.w P2 ks2)).H P2 = some (KSO X.prog X.w P2 ks2) := upd_same
  have hs' := hs3.put (o := KSO X.prog X.w P2 ks2) hP2
  have n2 : some P2 ∉ (w3.put P2 (KSO X.prog X.w P2 ks2)).m := hs3.new hP2
  replace h := h.up le2
  replace he := he.mono le2
  obtain ⟨at1, n1⟩ := Wd.stay le2 at1 n1
  show tDisp1 X (tVar i) σ (w3.put P2 (KSO X.prog X.w P2 ks2)).H _
  clear hs hs3
  generalize w3.put P2 (KSO X.prog X.w P2 ks2) = w4 at *
  clear hP2
  -- the one
  cases hz : e[i]? with
  | none => rw [hz] at h; exact h.elim
  | some ov =>
  cases ov with
  | none => rw [hz] at h; exact h.elim
  | some v =>
  rw [hz] at h
  cases v with
  | str zs =>
    simp only [strO] at h
    obtain ⟨u, hu, ru⟩ := he i _ hz
    obtain ⟨z, rfl, hzz, _⟩ := ru.str_inv
    subst hzz
    intro D1 hD1
    refine ⟨.str z, hu, .inr z, rfl, upd_same, ?_⟩
    rw [upd_upd]
    have le3 := Wd.put_le (w := w4) (p := D1) (o := KSO X.prog X.w D1 [.inr z]) hD1
    have n2D : P2 ≠ D1 := ne_of_none at2 hD1
    have atD : (w4.put D1 (KSO X.prog X.w D1 [.inr z])).H D1 = some (KSO X.prog X.w D1 [.inr z]) := upd_same
    have hs3 := hs'.put (o := KSO X.prog X.w D1 [.inr z]) hD1
    replace h := h.up le3
    replace he := he.mono le3
    obtain ⟨at1, n1⟩ := Wd.stay le3 at1 n1
    obtain ⟨at2, n2⟩ := Wd.stay le3 at2 n2
    show rSubKs X (V.ref P2) (.ref D1) (w4.put D1 (KSO X.prog X.w D1 [.inr z])).H _
    clear hs'
    generalize w4.put D1 (KSO X.prog X.w D1 [.inr z]) = w5 at *
    have l2 := m2.len
    refine ⟨P2, D1, ks2, [.inr z], rfl, rfl, at2, atD, by omega, by simp, by simp, fun P3 js hP3 hjl hjm => ?_⟩
    have le4 := Wd.put_le (w := w5) (p := P3) (o := KSO X.prog X.w P3 js) hP3
    have at3 : (w5.put P3 (KSO X.prog X.w P3 js)).H P3 = some (KSO X.prog X.w P3 js) := upd_same
    have hs4 := hs3.put (o := KSO X.prog X.w P3 js) hP3
    have n3 : some P3 ∉ (w5.put P3 (KSO X.prog X.w P3 js)).m := hs3.new hP3
    replace h := h.up le4
    replace he := he.mono le4
    obtain ⟨at1, n1⟩ := Wd.stay le4 at1 n1
    show (tCB (rSetKs X) (tCons (rdE X.K cl W cf pd) tNil)) σ (w5.put P3 (KSO X.prog X.w P3 js)).H _
    clear hs3
    generalize w5.put P3 (KSO X.prog X.w P3 js) = w6 at *
    clear hP3
    -- the third set
    refine ⟨w6, e, st2, rfl, he, hs4, (RdO.out he h).mono fun x3 H3 hQ => ?_⟩
    obtain ⟨w7, v3, st3, e3, hw7, hs7, r3, h⟩ := hQ
    subst e3
    replace he := he.mono hw7
    obtain ⟨at1, n1⟩ := Wd.stay hw7 at1 n1
    obtain ⟨at3, n3⟩ := Wd.stay hw7 at3 n3
    cases hk3 : strT (15 - ys.length) v3 with
    | none => rw [hk3] at h; exact h.elim
    | some us =>
    rw [hk3] at h
    simp only at h
    obtain ⟨l4, ks4, rfl, hq4, m4, hz4⟩ := strT_rep r3 hk3
    have l4' := m4.len
    refine ⟨false, l4, ks4, rfl, hq4, by omega, fun P4 hP4 => ?_⟩
    have le5 := Wd.put_le (w := w7) (p := P4) (o := KSO X.prog X.w P4 ks4) hP4
    have n34 : P3 ≠ P4 := ne_of_none at3 hP4
    have at4 : (w7.put P4 (KSO X.prog X.w P4 ks4)).H P4 = some (KSO X.prog X.w P4 ks4) := upd_same
    have hs5 := hs7.put (o := KSO X.prog X.w P4 ks4) hP4
    replace h := h.up le5
    replace he := he.mono le5
    obtain ⟨at1, n1⟩ := Wd.stay le5 at1 n1
    obtain ⟨at3, n3⟩ := Wd.stay le5 at3 n3
    show rOrKs X (V.ref P3) (.ref P4) (w7.put P4 (KSO X.prog X.w P4 ks4)).H _
    clear hs7
    generalize w7.put P4 (KSO X.prog X.w P4 ks4) = w8 at *
    refine ⟨P3, P4, js, ks4, rfl, rfl, at3, at4, n34, by omega, fun P5 qs hP5 hql hqm => ?_⟩
    have le6 := Wd.put_le (w := w8) (p := P5) (o := KSO X.prog X.w P5 qs) hP5
    have at5 : (w8.put P5 (KSO X.prog X.w P5 qs)).H P5 = some (KSO X.prog X.w P5 qs) := upd_same
    have hs6 := hs5.put (o := KSO X.prog X.w P5 qs) hP5
    replace h := h.up le6
    replace he := he.mono le6
    obtain ⟨at1, n1⟩ := Wd.stay le6 at1 n1
    show rNeKs X (V.ref P1) (.ref P5) (w8.put P5 (KSO X.prog X.w P5 qs)).H _
    generalize w8.put P5 (KSO X.prog X.w P5 qs) = w9 at *
    have hiff := scB_iff m1 m2 m4 hjm hqm
    refine ⟨P1, P5, ks1, qs, rfl, rfl, at1, at5, by omega, fun r hr => ⟨r, rfl, ?_⟩⟩
    have er : r = scB xs ys z.cps.toList us := by
      rw [Bool.eq_iff_iff]
      exact hr.trans hiff.symm
    rw [← er] at h
    cases r with
    | true => exact ⟨w9, e, st3, rfl, he, hs6, h⟩
    | false => exact ⟨w9, e, st3, rfl, he, hs6, h⟩
  | _ => exact h.elim
end
end PL

/-! PL9: blocks, defs, the law's end. -/
namespace PL
open PySem L2

noncomputable def asgOk (sc : Scope) : Expr → Expr → Bool
  | .Tuple ts _ _, .Tuple vs _ _ => decide (swS sc ts vs = some none)
  | .Tuple _ _ _, e => notComp e || (match e with
    | .ListComp .. => true
    | _ => false)
  | .Name y py, .ListComp _ _ scope pos => !swB sc scope y py pos
  | .Name _ _, e => notComp e
  | _, _ => false
noncomputable def lcOk (sc : Scope) : Expr → Expr → Bool
  | .Name y py, .ListComp _ _ scope pos => swB sc scope y py pos
  | _, _ => false
noncomputable def chAsg (B : Tb) (N : List Str) (sc : Scope) (t : Tg) (x : PX) : Stmt → Bool
  | .Assign [tg] e _ => chG N sc t tg && chE B N x sc e && (asgOk sc tg e || lcOk sc tg e)
  | _ => false
noncomputable def par2 (N : List Str) (sc : Scope) (i j : Nat) : List Expr → List Expr → Bool
  | [.Name x px, .Name y py], [a, b] => decide (swS sc [.Name x px, .Name y py] [a, b] = some (some [x, y])) && decide (N[i]? = some x) && decide (N[j]? = some y) && decide (i ≠ j) &&
      decide (sc.names.lookup x = some .local) && decide (sc.names.lookup y = some .local)
  | _, _ => false
noncomputable def par3 (N : List Str) (sc : Scope) (i j l : Nat) : List Expr → List Expr → Bool
  | [.Name x px, .Name y py, .Name z pz], [a, b, c] => decide (swS sc [.Name x px, .Name y py, .Name z pz] [a, b, c] = some (some [x, y, z])) &&
      decide (N[i]? = some x) && decide (N[j]? = some y) && decide (N[l]? = some z) && decide (i ≠ j) && decide (i ≠ l) && decide (j ≠ l) &&
      decide (sc.names.lookup x = some .local) && decide (sc.names.lookup y = some .local) && decide (sc.names.lookup z = some .local)
  | _, _ => false
noncomputable def chPar (B : Tb) (N : List Str) (sc : Scope) (es : PXs) : List Nat → Stmt → Bool
  | [i, j], .Assign [.Tuple ts _ _] (.Tuple vs _ _) _ => par2 N sc i j ts vs && chA B N es sc vs
  | [i, j, l], .Assign [.Tuple ts _ _] (.Tuple vs _ _) _ => par3 N sc i j l ts vs && chA B N es sc vs
  | _, _ => false
noncomputable def chRet (B : Tb) (N : List Str) (sc : Scope) (x : PX) : Stmt → Bool
  | .Return none _ => (match x with
    | .cst .non => true
    | _ => false)
  | .Return (some e) _ => chE B N x sc e
  | _ => false
noncomputable def chSat (B : Tb) (N : List Str) (sc : Scope) (a : PX) (C f : Str) (x : PX) : Stmt → Bool
  | .Assign [.Attribute o g _] e _ => decide (g = f) && isFld B C f && notComp e && chE B N a sc o && chE B N x sc e
  | _ => false
noncomputable def chSt1 (B : Tb) (N : List Str) (sc : Scope) (a i x : PX) : Stmt → Bool
  | .Assign [.Subscript o k _] e _ => plainIx k && notComp e && chE B N a sc o && chE B N i sc k && chE B N x sc e
  | _ => false
noncomputable def chDst (B : Tb) (N : List Str) (sc : Scope) (a x : PX) : Bool → PXs → Stmt → Bool
  | true, ks, .Assign [.Subscript o (.Tuple es _ _) _] e _ => notComp e && chE B N a sc o && chA B N ks sc es && chE B N x sc e
  | false, .cons k .nil, .Assign [.Subscript o i _] e _ => notComp e && chE B N a sc o && chE B N k sc i && chE B N x sc e
  | _, _, _ => false
noncomputable def chDsv (B : Tb) (N : List Str) (sc : Scope) (a k x : PX) : Stmt → Bool
  | .Assign [.Subscript o i _] e _ => notComp e && chE B N a sc o && chE B N k sc i && chE B N x sc e
  | _ => false
noncomputable def chSt2 (B : Tb) (N : List Str) (sc : Scope) (a i b j x : PX) : Stmt → Bool
  | .Assign [.Tuple [.Subscript o k p1, .Subscript q l p2] _ _] (.Tuple vs kk pp) _ => decide (swS sc [.Subscript o k p1, .Subscript q l p2] vs = some none) && plainIx k && plainIx l && chE B N a sc o && chE B N i sc k && chE B N b sc q && chE B N j sc l && chE B N x sc (.Tuple vs kk pp)
  | _ => false
noncomputable def chRse (B : Tb) (sc : Scope) (c : Nat) : Stmt → Bool
  | .Raise (some (.Call (.Name x _) [.Constant (.str _) _ _] [] _)) none _ => isGl sc x && okName x && decide ((x, c) ∈ B.es)
  | _ => false
/-- suites of except: what is said there is said at once -/
noncomputable def chH : PS → List Stmt → Bool
  | .skip, [] => true
  | .seq (.ret (.cst v)) r, .Return (some (.Constant c _ _)) _ :: ss => cstOk v c && chH r ss
  | .seq .brk r, .Break _ :: ss => chH r ss
  | .seq .cnt r, .Continue _ :: ss => chH r ss
  | .seq .skip r, .Pass _ :: ss => chH r ss
  | _, _ => false
/-- suites that ask for the word -/
noncomputable def chSu (B : Tb) (N : List Str) (sc : Scope) (n : Str) (i : Nat) (j : Option Nat) : Stmt → Bool
  | .Return (some (.Call (.Name y _) [.Name m _] [] _)) _ => decide (j = none) && decide (m = n) && isGl sc y && okName y && (match B.T.lookup i with
    | some d => decide (d.name = y)
    | none => false)
  | .Assign [.Name t _] (.Call (.Name y _) [.Name m _] [] _) _ => (match j with
    | some j => decide (N[j]? = some t) && isLocW sc t
    | none => false) && decide (m = n) && isGl sc y && okName y && (match B.T.lookup i with
    | some d => decide (d.name = y)
    | none => false)
  | _ => false
noncomputable def chTO (B : Tb) (sc : Scope) (ks : List Nat) (d : Nat) (p : PS) (fb : List Stmt → Bool) (ss0 : Stmt) : Bool := match ss0 with
    | .Try body [.ExceptHandler (some (.Name x _)) none (b0 :: suite) _] [] [] _ => isGl sc x && okName x && decide ((x, d) ∈ B.es) && ks.all (fun c => B.es.any fun q => decide (q.2 = c)) && chH p (b0 :: suite) && fb body
    | _ => false
noncomputable def chTW (B : Tb) (N : List Str) (sc : Scope) (ks : List Nat) (d ie i : Nat) (j : Option Nat) (fb : List Stmt → Bool) (ss0 : Stmt) : Bool := match ss0 with
    | .Try body [.ExceptHandler (some (.Name x _)) (some n) [su] _] [] [] _ => isGl sc x && okName x && decide ((x, d) ∈ B.es) && ks.all (fun c => decide (1 ≤ c) && decide (c ≤ 7) && B.es.any fun q => decide (q.2 = c)) && decide (N[ie]? = some n) && isLocW sc n && okName n && decide (B.wd = some i) && chSu B N sc n i j su && fb body
    | _ => false
/-- if set(a) != set(b) - {x} | set(d) -/
noncomputable def iscIn (B : Tb) (N : List Str) (sc : Scope) (i : Nat) : Stmt → Option (Expr × Expr × Expr × List Stmt × List Stmt)
  | .If (.Compare (.Call (.Name s1 _) [ea] [] _) [.NotEq] [.BinOp (.BinOp (.Call (.Name s2 _) [eb] [] _) .Sub (.Set [.Name x _] asy _) _) .BitOr (.Call (.Name s3 _) [ed] [] _) _] _) x1 x2 _ =>
    if (decide (s1 = "set") && decide (s2 = "set") && decide (s3 = "set") && isGl sc s1 && decide (s1 ∈ B.bs) && notStar ea && notStar eb && notStar ed && decide (asy = 0) && decide (N[i]? = some x) && isVis sc x && okName x) = true then some (ea, eb, ed, x1, x2) else none
  | _ => none
mutual
noncomputable def chS (B : Tb) (N : List Str) (sc : Scope) : PS → Stmt → Bool
  | .skip, ss0 => match ss0 with
    | .Pass _ => true
    | _ => false
  | .nev, _ => true
  | .brk, ss0 => match ss0 with
    | .Break _ => true
    | _ => false
  | .cnt, ss0 => match ss0 with
    | .Continue _ => true
    | _ => false
  | .asg t x, s => chAsg B N sc t x s
  | .par is es, s => chPar B N sc es is s
  | .exp x, ss0 => match ss0 with
    | .Expr e _ => notComp e && chE B N x sc e
    | _ => false
  | .ret x, s => chRet B N sc x s
  | .ite c a b, ss0 => match ss0 with
    | .If e x y _ => chT B N c sc e && chSs B N sc a x && chSs B N sc b y
    | _ => false
  | .fr t s b, ss0 => match ss0 with
    | .For tg iter body [] _ => notSet iter && chI B N s sc tg iter && chG N sc t tg && chSs B N sc b body
    | _ => false
  | .wh c b, ss0 => match ss0 with
    | .While e body [] _ => chT B N c sc e && chSs B N sc b body
    | _ => false
  | .frz _ p, s => chS B N sc p s
  | .lkd _ p, s => chS B N sc p s
  | .dsv a k x, s => chDsv B N sc a k x s
  | .sat a C f x, s => chSat B N sc a C f x s
  | .st1 a i x, s => chSt1 B N sc a i x s
  | .dst t a ks x, s => chDst B N sc a x t ks s
  | .rse c, s => chRse B sc c s
  | .tryO b ks d p, ss0 => chTO B sc ks d p (chSs B N sc b) ss0
  | .st2 a i b j x, s => chSt2 B N sc a i b j x s
  | .tryW b ks d ie i j, ss0 => chTW B N sc ks d ie i j (chSs B N sc b) ss0
  | .isc a b i d p q, ss0 => match iscIn B N sc i ss0 with
    | some (ea, eb, ed, x1, x2) => chE B N a sc ea && chE B N b sc eb && chE B N d sc ed && chSs B N sc p x1 && chSs B N sc q x2
    | none => false
  | _, _ => false
noncomputable def chSs (B : Tb) (N : List Str) (sc : Scope) : PS → List Stmt → Bool
  | .skip, [] => true
  | .seq a b, s :: ss => chS B N sc a s && chSs B N sc b ss
  | .wrd, ss => chW ss && scW sc
  | _, _ => false
end

structure FitS (B : Tb) (cl : Nat → Value) (cf : CF) (k : Nat) (N : List Str) (sc : Scope) (W : WX) (X : Cx) : Prop where
  fit : Fit B cl cf k N sc W X
  sce : X.env.scope = sc
  po : PassesOwn (model X.prog X.w) X.A X.env X.xe
  stk : X.stack = X.env :: X.outer
  frm : X.env.frame = some X.env.locals
  code : PySem.W.kdsCode X.K X.env.code = true
section
variable {B : Tb} {cl : Nat → Value} {cf : CF} {k : Nat} {N : List Str} {sc : Scope} {W : WX} {X : Cx}
theorem FitS.kind (F : FitS B cl cf k N sc W X) : X.env.scope.kind = .function := F.fit.srl.kind
theorem s_setLc {i : Nat} {y : Str} {py pos spos : Pos} {elt tg iter : Expr} {ifs : List Expr} {scope : Scope} {own : List Nat} {t : Tg} {s : Src} {c : PT} {pe : PX} (F : FitS B cl cf k N sc W X) (hi : N[i]? = some y) (hy : sc.names.lookup y = some .local)
    (hsw : swB sc scope y py pos = true) (h : chE B N (.comp own t s c pe) sc (.ListComp elt [⟨tg, iter, ifs, 0⟩] scope pos) = true) :
    L2.PS X (.Assign [.Name y py] (.ListComp elt [⟨tg, iter, ifs, 0⟩] scope pos) spos) (rdS X.K cl W cf (.asg (.nm i) (.comp own t s c pe))) := by
  replace h := andE h
  simp only [Bool.and_eq_true, decide_eq_true_eq, List.all_eq_true] at h
  obtain ⟨⟨⟨⟨⟨⟨⟨_, h1⟩, h2⟩, h3⟩, h4⟩, h5⟩, h6⟩, h7⟩ := h
  have F0 := F.fit
  have htt : ∀ {Y : Cx}, Fit B cl cf k N scope Wfalse Y → L2.PTs Y ifs (rdT Y.K cl Wfalse cf c) := fun {Y} FY => by
    rcases ifs with _ | ⟨x, _ | ⟨_, _⟩⟩
    · cases c <;> simp [isYes] at h6
      exact ts_yes
    · exact ts_one (sT c scope Wfalse Y x FY h6)
    · cases h6
  have ok := blk_run (blkOk_by h1) F0.srl
  rw [← F0.hN] at ok
  have q := ps_setLc (own := ownP X.N own) (pos := pos) (spos := spos) (py := py) (g := rdG X.K t) (tt := rdT X.K cl Wfalse cf c) (te := rdE X.K cl Wfalse cf pe) F0.calm (by rw [F0.hN]; exact F0.nd) (by rw [F0.hN]; exact hi) (by rw [F.sce]; exact hy)
    (by rw [sw_of F.kind F.sce, hsw]) (sI s sc W X _ _ F0 h4) ok (fun s H C cl' fp => g_of (F0.blk ok.kind s H C cl' fp) h5)
    (fun s H C cl' fp => htt (F0.blk ok.kind s H C cl' fp)) (fun s H C cl' fp => sE pe _ _ _ _ (F0.blk ok.kind s H C cl' fp) h7) (not_set h3)
  rw [ownP_snd] at q
  refine PSimp q fun D σ H hl h => ?_
  obtain ⟨w, e, st, rfl, he, hs, h⟩ := h
  have hiσ : i < σ.length := by rw [hl, F0.hN]; exact (List.getElem?_eq_some_iff.mp hi).1
  simp only [run] at h
  refine x_comp h2 ⟨w, e, st, rfl, he, hs, (RdO.out he h).mono fun u H1 hQ => ?_⟩
  obtain ⟨w1, v1, st1, e1, hw1, hs1, r1, h1⟩ := hQ
  subst e1
  simp only [asgT] at h1
  exact h1 w1 _ (.refl w1) hs1 ((he.mono hw1).set r1 i hiσ)
theorem s_setNc {i : Nat} {y : Str} {py pos spos : Pos} {elt tg iter : Expr} {ifs : List Expr} {scope : Scope} {own : List Nat} {t : Tg} {s : Src} {c : PT} {pe : PX} (F : FitS B cl cf k N sc W X) (hi : N[i]? = some y) (hy : sc.names.lookup y = some .local)
    (hsw : swB sc scope y py pos = true) (h : chE B N (.ncomp own t s c pe) sc (.ListComp elt [⟨tg, iter, ifs, 0⟩] scope pos) = true) :
    L2.PS X (.Assign [.Name y py] (.ListComp elt [⟨tg, iter, ifs, 0⟩] scope pos) spos) (rdS X.K cl W cf (.asg (.nm i) (.ncomp own t s c pe))) := by
  replace h := andE h
  simp only [Bool.and_eq_true, decide_eq_true_eq, List.all_eq_true] at h
  obtain ⟨⟨⟨⟨⟨⟨⟨_, h1⟩, h2⟩, h3⟩, h4⟩, h5⟩, h6⟩, h7⟩ := h
  have F0 := F.fit
  have htt : ∀ {Y : Cx}, Fit B cl cf k N scope Wfalse Y → L2.PTs Y ifs (rdT Y.K cl Wfalse cf c) := fun {Y} FY => by
    rcases ifs with _ | ⟨x, _ | ⟨_, _⟩⟩
    · cases c <;> simp [isYes] at h6
      exact ts_yes
    · exact ts_one (sT c scope Wfalse Y x FY h6)
    · cases h6
  have ok := blk_run (blkOk_by h1) F0.srl
  rw [← F0.hN] at ok
  have q := ps_setLc (own := ownP X.N own) (pos := pos) (spos := spos) (py := py) (g := rdG X.K t) (tt := rdT X.K cl Wfalse cf c) (te := rdE X.K cl Wfalse cf pe) F0.calm (by rw [F0.hN]; exact F0.nd) (by rw [F0.hN]; exact hi) (by rw [F.sce]; exact hy)
    (by rw [sw_of F.kind F.sce, hsw]) (sI s sc W X _ _ F0 h4) ok (fun s H C cl' fp => g_of (F0.blk ok.kind s H C cl' fp) h5)
    (fun s H C cl' fp => htt (F0.blk ok.kind s H C cl' fp)) (fun s H C cl' fp => sE pe _ _ _ _ (F0.blk ok.kind s H C cl' fp) h7) (not_set h3)
  rw [ownP_snd] at q
  refine PSimp q fun D σ H hl h => ?_
  obtain ⟨w, e, st, rfl, he, hs, h⟩ := h
  have hiσ : i < σ.length := by rw [hl, F0.hN]; exact (List.getElem?_eq_some_iff.mp hi).1
  simp only [run] at h
  refine x_ncomp h2 ⟨w, e, st, rfl, he, hs, (RdO.out he h).mono fun u H1 hQ => ?_⟩
  obtain ⟨w1, v1, st1, e1, hw1, hs1, r1, h1⟩ := hQ
  subst e1
  simp only [asgT] at h1
  exact h1 w1 _ (.refl w1) hs1 ((he.mono hw1).set r1 i hiσ)
theorem sole_eq {tg a : Expr} {l : Nat} {env : PySem.Env} : swapsWithSole [tg] a l env = swapsWith a (some tg) l env := by
  unfold swapsWithSole
  rfl
theorem asg_ok {tg a : Expr} {l : Nat} (F : FitS B cl cf k N sc W X) (h : asgOk sc tg a = true) : swapsWithSole [tg] a l X.env = pure false ∧ swappedStores [tg] a X.env = pure none ∧ (assignEach [tg] X.env).map (·.2) = [assign tg X.env] := by
  rw [sole_eq]
  unfold asgOk at h
  split at h
  · rw [decide_eq_true_eq] at h
    exact ⟨rfl, swS_of F.kind F.sce h, rfl⟩
  · rename_i hn
    refine ⟨?_, ?_, rfl⟩
    · rw [Bool.or_eq_true] at h
      rcases h with h | h
      · exact not_comp h
      · split at h
        · rfl
        · cases h
    · cases a <;> first | rfl | (exfalso; exact hn _ _ _ rfl)
  · rw [Bool.not_eq_true'] at h
    refine ⟨?_, rfl, rfl⟩
    rw [sw_of F.kind F.sce, h]
  · refine ⟨not_comp h, ?_, rfl⟩
    cases a <;> rfl
  · cases h
theorem s_asgAny {t : Tg} {x : PX} {s : Stmt} (F : FitS B cl cf k N sc W X) (h : chAsg B N sc t x s = true) : L2.PS X s (rdS X.K cl W cf (.asg t x)) := by
  cases s with
  | Assign tgs e pos =>
    rcases tgs with _ | ⟨tg, _ | ⟨_, _⟩⟩
    · simp [chAsg] at h
    · simp only [chAsg, Bool.and_eq_true, Bool.or_eq_true] at h
      obtain ⟨⟨h1, h2⟩, h3⟩ := h
      rcases h3 with h3 | h3
      · obtain ⟨k1, k2, k3⟩ := asg_ok (l := pos.line) F h3
        exact s_asg (sE x sc W X e F.fit h2) (g_of F.fit h1) k1 k2 k3
      · unfold lcOk at h3
        split at h3
        · rename_i y py elt gs scope p
          have hy : sc.names.lookup y = some .local := by
            unfold swB at h3
            simp only [Bool.and_eq_true, decide_eq_true_eq] at h3
            exact h3.1.1
          cases t with
          | tp ts => simp [chG] at h1
          | nm i =>
            simp only [chG, Bool.and_eq_true, decide_eq_true_eq] at h1
            cases x with
            | comp own t2 s2 c2 el =>
              rcases gs with _ | ⟨⟨tg, iter, ifs, asy⟩, _ | ⟨_, _⟩⟩
              · exact absurd h2 Bool.false_ne_true
              · have ea : asy = 0 := by
                  replace h2 := andE h2
                  simp only [Bool.and_eq_true, decide_eq_true_eq] at h2
                  exact h2.1.1.1.1.1.1.1
                subst ea
                exact s_setLc F h1.1 hy h3 h2
              · exact absurd h2 Bool.false_ne_true
            | ncomp own t2 s2 c2 el =>
              rcases gs with _ | ⟨⟨tg, iter, ifs, asy⟩, _ | ⟨_, _⟩⟩
              · exact absurd h2 Bool.false_ne_true
              · have ea : asy = 0 := by
                  replace h2 := andE h2
                  simp only [Bool.and_eq_true, decide_eq_true_eq] at h2
                  exact h2.1.1.1.1.1.1.1
                subst ea
                exact s_setNc F h1.1 hy h3 h2
              · exact absurd h2 Bool.false_ne_true
            | u1 op a => cases op <;> exact absurd h2 Bool.false_ne_true
            | nd t => exact absurd h2 Bool.false_ne_true
            | orv a b => exact absurd h2 Bool.false_ne_true
            | dsd a k x => exact absurd h2 Bool.false_ne_true
            | ndl es => exact absurd h2 Bool.false_ne_true
            | dgt t a ks x => cases t with
              | true => exact absurd h2 Bool.false_ne_true
              | false => rcases ks with _ | ⟨k, _ | ⟨_, _⟩⟩ <;> exact absurd h2 Bool.false_ne_true
            | dat t a ks => cases t with
              | true => exact absurd h2 Bool.false_ne_true
              | false => rcases ks with _ | ⟨k, _ | ⟨_, _⟩⟩ <;> exact absurd h2 Bool.false_ne_true
            | din t n ks a => cases t with
              | true => exact absurd h2 Bool.false_ne_true
              | false => rcases ks with _ | ⟨k, _ | ⟨_, _⟩⟩ <;> exact absurd h2 Bool.false_ne_true
            | rv a i =>
              replace h2 : chRvB (chE B N a sc) i (.ListComp elt gs scope p) = true := h2
              simp [chRvB] at h2
            | mth m a es => rcases es with _ | ⟨b, _ | ⟨c, r⟩⟩ <;> exact absurd h2 Bool.false_ne_true
            | _ => exact absurd h2 Bool.false_ne_true
        · cases h3
    · simp [chAsg] at h
  | _ => simp [chAsg] at h
theorem s_parAny {is : List Nat} {es : PXs} {s : Stmt} (F : FitS B cl cf k N sc W X) (h : chPar B N sc es is s = true) : L2.PS X s (rdS X.K cl W cf (.par is es)) := by
  have hN := F.fit.hN
  have nd : X.N.Nodup := by rw [hN]; exact F.fit.nd
  unfold chPar at h
  split at h
  · rw [Bool.and_eq_true] at h
    obtain ⟨h1, h2⟩ := h
    unfold par2 at h1
    split at h1
    · simp only [Bool.and_eq_true, decide_eq_true_eq] at h1
      obtain ⟨⟨⟨⟨⟨h3, h4⟩, h5⟩, h6⟩, h7⟩, h8⟩ := h1
      exact s_par2 F.fit.calm nd (by rw [hN]; exact h4) (by rw [hN]; exact h5) h6 (by rw [F.sce]; exact h7) (by rw [F.sce]; exact h8) (sA es sc W X _ F.fit h2) (swS_of F.kind F.sce h3)
    · cases h1
  · rw [Bool.and_eq_true] at h
    obtain ⟨h1, h2⟩ := h
    unfold par3 at h1
    split at h1
    · simp only [Bool.and_eq_true, decide_eq_true_eq] at h1
      obtain ⟨⟨⟨⟨⟨⟨⟨⟨⟨h3, h4⟩, h5⟩, h5b⟩, h6⟩, h6b⟩, h6c⟩, h7⟩, h8⟩, h9⟩ := h1
      exact s_par3 F.fit.calm nd (by rw [hN]; exact h4) (by rw [hN]; exact h5) (by rw [hN]; exact h5b) h6 h6b h6c (by rw [F.sce]; exact h7) (by rw [F.sce]; exact h8) (by rw [F.sce]; exact h9) (sA es sc W X _ F.fit h2) (swS_of F.kind F.sce h3)
    · cases h1
  · cases h
theorem s_retAny {x : PX} {s : Stmt} (F : FitS B cl cf k N sc W X) (h : chRet B N sc x s = true) : L2.PS X s (rdS X.K cl W cf (.ret x)) := by
  unfold chRet at h
  split at h
  · split at h
    · exact s_retN
    · cases h
  · exact s_ret (sE x sc W X _ F.fit h)
  · cases h
theorem s_satAny {a x : PX} {C f : Str} {s : Stmt} (F : FitS B cl cf k N sc W X) (h : chSat B N sc a C f x s = true) : L2.PS X s (rdS X.K cl W cf (.sat a C f x)) := by
  unfold chSat at h
  split at h
  · simp only [Bool.and_eq_true, decide_eq_true_eq] at h
    obtain ⟨⟨⟨⟨rfl, h1⟩, h2⟩, h3⟩, h4⟩ := h
    exact s_sat (sE a sc W X _ F.fit h3) (sE x sc W X _ F.fit h4) (fun D hD => fld_of F.fit h1 hD) (not_comp h2)
  · cases h
theorem s_rseAny {c : Nat} {s : Stmt} (F : FitS B cl cf k N sc W X) (h : chRse B sc c s = true) : L2.PS X s (rdS X.K cl W cf (.rse c)) := by
  unfold chRse at h
  split at h
  · simp only [Bool.and_eq_true, decide_eq_true_eq] at h
    obtain ⟨⟨h1, h2⟩, h3⟩ := h
    obtain ⟨C, e1, e2, e3⟩ := F.fit.gok.es _ h3
    exact s_rse F.fit.calm F.fit.tk e1 e2 e3 (F.fit.gl h1) (okName_iff h2).1
  · cases h
theorem sH {Y : Cx} : ∀ (p : PS) (ss : List Stmt), chH p ss = true → L2.PSs Y ss (rdS Y.K cl W cf p) := by
  intro p ss
  induction ss generalizing p with
  | nil =>
    intro h
    cases p with
    | skip => exact s_nil
    | seq a r =>
      cases a with
      | ret x => cases x <;> simp [chH] at h
      | _ => simp [chH] at h
    | _ => simp [chH] at h
  | cons s ss ih =>
    intro h
    cases p with
    | seq a r =>
      cases a with
      | ret x =>
        cases x with
        | cst v =>
          cases s with
          | Return o pos =>
            cases o with
            | none => simp [chH] at h
            | some e =>
              cases e with
              | Constant c j p2 =>
                simp only [chH, Bool.and_eq_true] at h
                obtain ⟨u, h1, h2⟩ := cst_of (X := Y) (j := j) (pos := p2) h.1
                exact s_cons (s_ret (x_cst h1 h2)) (ih _ h.2)
              | _ => simp [chH] at h
          | _ => simp [chH] at h
        | _ => simp [chH] at h
      | brk => cases s <;> simp [chH] at h; exact s_cons s_brk (ih _ h)
      | cnt => cases s <;> simp [chH] at h; exact s_cons s_cnt (ih _ h)
      | skip => cases s <;> simp [chH] at h; exact s_cons s_pass (ih _ h)
      | _ => simp [chH] at h
    | _ => simp [chH] at h
theorem s_st1Any {a i x : PX} {s : Stmt} (F : FitS B cl cf k N sc W X) (h : chSt1 B N sc a i x s = true) : L2.PS X s (rdS X.K cl W cf (.st1 a i x)) := by
  unfold chSt1 at h
  split at h
  · rename_i o k p e pos
    simp only [Bool.and_eq_true] at h
    obtain ⟨⟨⟨⟨h1, h2⟩, h3⟩, h4⟩, h5⟩ := h
    exact s_st1 (sE a sc W X _ F.fit h3) (sE i sc W X _ F.fit h4) (sE x sc W X _ F.fit h5) h1 (by rw [sole_eq]; exact not_comp h2) (by cases e <;> rfl)
  · cases h
theorem s_dstAny {t : Bool} {a x : PX} {ks : PXs} {s : Stmt} (F : FitS B cl cf k N sc W X) (h : chDst B N sc a x t ks s = true) : L2.PS X s (rdS X.K cl W cf (.dst t a ks x)) := by
  have hu : X.A.units + 1 < cLine := by have := F.fit.units; omega
  unfold chDst at h
  split at h
  · simp only [Bool.and_eq_true] at h
    obtain ⟨⟨⟨h1, h2⟩, h3⟩, h4⟩ := h
    exact s_dstT hu (sE a sc W X _ F.fit h2) (sA _ sc W X _ F.fit h3) (sE x sc W X _ F.fit h4) (not_comp h1)
  · simp only [Bool.and_eq_true] at h
    obtain ⟨⟨⟨h1, h2⟩, h3⟩, h4⟩ := h
    exact s_dstF hu (sE a sc W X _ F.fit h2) (sE _ sc W X _ F.fit h3) (sE x sc W X _ F.fit h4) (not_comp h1)
  · cases h
theorem s_dsvAny {a k' x : PX} {s : Stmt} (F : FitS B cl cf k N sc W X) (h : chDsv B N sc a k' x s = true) : L2.PS X s (rdS X.K cl W cf (.dsv a k' x)) := by
  have hu : X.A.units + 1 < cLine := by have := F.fit.units; omega
  unfold chDsv at h
  split at h
  · simp only [Bool.and_eq_true] at h
    obtain ⟨⟨⟨h1, h2⟩, h3⟩, h4⟩ := h
    exact s_dsv hu (sE a sc W X _ F.fit h2) (sE _ sc W X _ F.fit h3) (sE x sc W X _ F.fit h4) (not_comp h1)
  · cases h
theorem s_st2Any {a i b j x : PX} {s : Stmt} (F : FitS B cl cf k N sc W X) (h : chSt2 B N sc a i b j x s = true) : L2.PS X s (rdS X.K cl W cf (.st2 a i b j x)) := by
  unfold chSt2 at h
  split at h
  · simp only [Bool.and_eq_true, decide_eq_true_eq] at h
    obtain ⟨⟨⟨⟨⟨⟨⟨h0, h1⟩, h2⟩, h3⟩, h4⟩, h5⟩, h6⟩, h7⟩ := h
    exact s_st2 F.fit.calm (sE a sc W X _ F.fit h3) (sE i sc W X _ F.fit h4) (sE b sc W X _ F.fit h5) (sE j sc W X _ F.fit h6) (sE x sc W X _ F.fit h7) h1 h2 rfl (swS_of F.kind F.sce h0)
  · cases h
mutual
theorem sS : ∀ (p : PS) (W : WX) (X : Cx) (s : Stmt), FitS B cl cf k N sc W X → chS B N sc p s = true → L2.PS X s (rdS X.K cl W cf p)
  | .skip, W, X, s, F, h => by
    cases s <;> first | exact absurd h Bool.false_ne_true | skip
    exact s_pass
  | .nev, W, X, s, F, h => ⟨fun pins s σ H D I q => by
    obtain ⟨w, e, st, _, _, _, q⟩ := q
    simp only [run] at q
    exact q.elim⟩
  | .frz i p, W, X, s, F, h => by
    exact s_frz (sS p W X s F h)
  | .lkd i p, W, X, s, F, h => s_lkd (sS p W X s F h)
  | .dsv a k x, W, X, s, F, h => s_dsvAny F h
  | .sat a C f x, W, X, s, F, h => by
    exact s_satAny F h
  | .st1 a i x, W, X, s, F, h => by
    exact s_st1Any F h
  | .dst t a ks x, W, X, s, F, h => by
    exact s_dstAny F h
  | .rse c, W, X, s, F, h => by
    exact s_rseAny F h
  | .tryO b ks d p, W, X, s, F, h => by
    replace h : chTO B sc ks d p (chSs B N sc b) s = true := h
    cases s with
    | Try body hs oe fe pos =>
      rcases hs with _ | ⟨⟨ty, nm, su, p2⟩, _ | ⟨_, _⟩⟩
      · simp [chTO] at h
      · cases oe with
        | cons _ _ => simp [chTO] at h
        | nil =>
          cases fe with
          | cons _ _ => simp [chTO] at h
          | nil =>
            cases nm with
            | some _ => simp [chTO] at h
            | none =>
              cases su with
              | nil => simp [chTO] at h
              | cons b0 suite =>
                cases ty with
                | none => simp [chTO] at h
                | some t =>
                  cases t with
                  | Name x np =>
                    replace h := andE h
                    simp only [Bool.and_eq_true, decide_eq_true_eq, List.all_eq_true, List.any_eq_true] at h
                    obtain ⟨⟨⟨⟨⟨h1, h2⟩, h3⟩, h4⟩, h5⟩, h6⟩ := h
                    obtain ⟨C, e1, e2, e3⟩ := F.fit.gok.es _ h3
                    refine s_tryO F.stk F.frm ⟨F.fit.gl h1, (okName_iff h2).1, .inl (by rw [e2]; exact e1)⟩ F.fit.tk (fun c hc => ?_) (fun W' pn xe tk po => ?_) fun a pn => sH p _ h5
                    · obtain ⟨q, hq, e⟩ := h4 c hc
                      have := F.fit.gok.exm q hq _ h3
                      rw [e] at this
                      exact this
                    · exact sSs b W' (X.tr pn xe) body { fit := { gok := F.fit.gok, hN := F.fit.hN, nd := F.fit.nd, srl := F.fit.srl, fnm := F.fit.fnm, calm := F.fit.calm, room := F.fit.room, tk := tk }, sce := F.sce, po := po, stk := F.stk, frm := F.frm, code := F.code } h6
                  | _ => simp [chTO] at h
      · simp [chTO] at h
    | _ => simp [chTO] at h
  | .st2 a i b j x, W, X, s, F, h => by
    exact s_st2Any F h
  | .isc a b i d p q, W, X, s, F, h => by
    have hu : X.A.units < cLine := by have := F.fit.units; omega
    replace h : (match iscIn B N sc i s with
      | some (ea, eb, ed, x1, x2) => chE B N a sc ea && chE B N b sc eb && chE B N d sc ed && chSs B N sc p x1 && chSs B N sc q x2
      | none => false) = true := h
    cases hy : iscIn B N sc i s with
    | none => rw [hy] at h; cases h
    | some o =>
      obtain ⟨ea, eb, ed, x1, x2⟩ := o
      rw [hy] at h
      simp only [Bool.and_eq_true] at h
      obtain ⟨⟨⟨⟨g1, g2⟩, g3⟩, g4⟩, g5⟩ := h
      unfold iscIn at hy
      split at hy
      · split at hy
        · rename_i hc
          cases hy
          simp only [Bool.and_eq_true, decide_eq_true_eq] at hc
          obtain ⟨⟨⟨⟨⟨⟨⟨⟨⟨⟨⟨rfl, rfl⟩, rfl⟩, k1⟩, k2⟩, k3⟩, k4⟩, k5⟩, rfl⟩, k6⟩, k7⟩, k8⟩ := hc
          have hon := okName_iff k8
          exact s_isc F.fit.calm hu F.code (F.fit.gl k1) (F.fit.gok.bi _ k2) (sE a sc W X _ F.fit g1) (sE b sc W X _ F.fit g2) (pe_var (by rw [F.fit.hN]; exact k6) (F.fit.srl.vis k7) hon.1 hon.2.1) (sE d sc W X _ F.fit g3) rfl
            (star_cons k3) (star_cons k4) (star_cons k5) (sSs p W X _ F g4) (sSs q W X _ F g5)
        · cases hy
      · cases hy
  | .wrd, W, X, s, F, h => by cases s <;> exact absurd h Bool.false_ne_true
  | .tryW b ks d ie wi j, W, X, s, F, h => by
    replace h : chTW B N sc ks d ie wi j (chSs B N sc b) s = true := h
    cases s with
    | Try body hs oe fe pos =>
      rcases hs with _ | ⟨⟨ty, nm, su, p2⟩, _ | ⟨_, _⟩⟩
      · simp [chTW] at h
      · cases oe with
        | cons _ _ => simp [chTW] at h
        | nil =>
          cases fe with
          | cons _ _ => simp [chTW] at h
          | nil =>
            cases nm with
            | none => simp [chTW] at h
            | some n =>
              rcases su with _ | ⟨su, _ | ⟨_, _⟩⟩
              · simp [chTW] at h
              · cases ty with
                | none => simp [chTW] at h
                | some t =>
                  cases t with
                  | Name x np =>
                    replace h := andE h
                    simp only [Bool.and_eq_true, decide_eq_true_eq, List.all_eq_true, List.any_eq_true] at h
                    obtain ⟨⟨⟨⟨⟨⟨⟨⟨⟨h1, h2⟩, h3⟩, h4⟩, h5⟩, h6⟩, h7⟩, h8⟩, h9⟩, h10⟩ := h
                    obtain ⟨C, e1, e2, e3⟩ := F.fit.gok.es _ h3
                    obtain ⟨dd, hdd, WF⟩ := F.fit.gok.wd _ h8
                    have hloc : X.env.scope.names.lookup n = some .local := by rw [F.sce]; exact isLocW_of h6
                    refine s_tryW F.stk F.frm (by rw [F.fit.hN]; exact F.fit.nd) (by rw [F.fit.hN]; exact h5) hloc ⟨F.fit.gl h1, (okName_iff h2).1, .inl (by rw [e2]; exact e1)⟩ F.fit.tk (fun c hc => ?_) (fun W' pn xe tk po => ?_) fun a oe c pn st hc hz hfl => ?_
                    · obtain ⟨_, q, hq, e⟩ := h4 c hc
                      have := F.fit.gok.exm q hq _ h3
                      rw [e] at this
                      exact this
                    · exact sSs b W' (X.tr pn xe) body { fit := { gok := F.fit.gok, hN := F.fit.hN, nd := F.fit.nd, srl := F.fit.srl, fnm := F.fit.fnm, calm := F.fit.calm, room := F.fit.room, tk := tk }, sce := F.sce, po := po, stk := F.stk, frm := F.frm, code := F.code } h10
                    · obtain ⟨⟨c1, c7⟩, _⟩ := h4 c hc
                      have hr0 := L2H.RoomH.mono (j := 1) (L2H.roomH_of F.fit.room) (by omega)
                      have hr : L2H.RoomH 1 (X.suite a ((a, oe) :: pn)).A := ⟨hr0.dp, hr0.un⟩
                      have hon := okName_iff h7
                      unfold chSu at h9
                      split at h9
                      · simp only [Bool.and_eq_true, decide_eq_true_eq] at h9
                        obtain ⟨⟨⟨⟨rfl, rfl⟩, g1⟩, g2⟩, g3⟩ := h9
                        rw [hdd] at g3
                        simp only [decide_eq_true_eq] at g3
                        subst g3
                        exact su_ret (Y := X.suite a ((a, oe) :: pn)) WF c1 c7 List.mem_cons_self hz hfl hr (F.fit.gl g1) (okName_iff g2).1 (by show X.N[ie]? = _; rw [F.fit.hN]; exact h5) (.inl hloc) hon.1 hon.2.1
                      · simp only [Bool.and_eq_true, decide_eq_true_eq] at h9
                        obtain ⟨⟨⟨⟨g0, rfl⟩, g1⟩, g2⟩, g3⟩ := h9
                        rw [hdd] at g3
                        simp only [decide_eq_true_eq] at g3
                        subst g3
                        cases j with
                        | none => cases g0
                        | some j =>
                          simp only [Bool.and_eq_true, decide_eq_true_eq] at g0
                          exact su_set (Y := X.suite a ((a, oe) :: pn)) WF c1 c7 List.mem_cons_self hz hfl hr (F.fit.gl g1) (okName_iff g2).1 (by show X.N.Nodup; rw [F.fit.hN]; exact F.fit.nd) (by show X.N[ie]? = _; rw [F.fit.hN]; exact h5) (.inl hloc) hon.1 hon.2.1
                            (by show X.N[j]? = _; rw [F.fit.hN]; exact g0.1) (by show X.env.scope.names.lookup _ = _; rw [F.sce]; exact isLocW_of g0.2)
                      · cases h9
                  | _ => simp [chTW] at h
              · simp [chTW] at h
      · simp [chTW] at h
    | _ => simp [chTW] at h
  | .brk, W, X, s, F, h => by
    cases s <;> first | exact absurd h Bool.false_ne_true | skip
    exact s_brk
  | .cnt, W, X, s, F, h => by
    cases s <;> first | exact absurd h Bool.false_ne_true | skip
    exact s_cnt
  | .seq a b, W, X, s, F, h => by
    cases s <;> first | exact absurd h Bool.false_ne_true | skip
  | .asg t x, W, X, s, F, h => by
    exact s_asgAny F h
  | .par is es, W, X, s, F, h => by
    exact s_parAny F h
  | .exp x, W, X, s, F, h => by
    cases s <;> first | exact absurd h Bool.false_ne_true | skip
    replace h := andE h
    exact s_exp (sE x sc W X _ F.fit h.2) (not_comp h.1)
  | .ret x, W, X, s, F, h => by
    exact s_retAny F h
  | .ite c a b, W, X, s, F, h => by
    cases s <;> first | exact absurd h Bool.false_ne_true | skip
    replace h := andE h
    simp only [Bool.and_eq_true] at h
    exact s_ite (sT c sc W X _ F.fit h.1.1) (sSs a W X _ F h.1.2) (sSs b W X _ F h.2)
  | .fr t s b, W, X, st, F, h => by
    cases st with
    | For tg iter body oe pos =>
      cases oe <;> first | exact absurd h Bool.false_ne_true | skip
      replace h := andE h
      simp only [Bool.and_eq_true] at h
      exact s_for F.po F.fit.calm (sI s sc W X _ _ F.fit h.1.1.2) (g_of F.fit h.1.2) (sSs b W X _ F h.2) (not_set h.1.1.1)
    | _ => exact absurd h Bool.false_ne_true
  | .wh c b, W, X, st, F, h => by
    cases st with
    | While e body oe pos =>
      cases oe <;> first | exact absurd h Bool.false_ne_true | skip
      replace h := andE h
      exact s_wh F.po (sT c sc W X _ F.fit h.1) (sSs b W X _ F h.2)
    | _ => exact absurd h Bool.false_ne_true
theorem sSs : ∀ (p : PS) (W : WX) (X : Cx) (ss : List Stmt), FitS B cl cf k N sc W X → chSs B N sc p ss = true → L2.PSs X ss (rdS X.K cl W cf p)
  | .skip, W, X, [], F, h => s_nil
  | .skip, W, X, _ :: _, F, h => absurd h Bool.false_ne_true
  | .nev, W, X, ss, F, h => by cases ss <;> exact absurd h Bool.false_ne_true
  | .frz _ _, W, X, ss, F, h => by cases ss <;> exact absurd h Bool.false_ne_true
  | .lkd _ _, W, X, ss, F, h => by cases ss <;> exact absurd h Bool.false_ne_true
  | .dsv _ _ _, W, X, ss, F, h => by cases ss <;> exact absurd h Bool.false_ne_true
  | .seq a b, W, X, [], F, h => absurd h Bool.false_ne_true
  | .seq a b, W, X, s :: ss, F, h => by
    simp only [chSs, Bool.and_eq_true] at h
    exact s_cons (sS a W X s F h.1) (sSs b W X ss F h.2)
  | .asg _ _, W, X, ss, F, h => by cases ss <;> exact absurd h Bool.false_ne_true
  | .par _ _, W, X, ss, F, h => by cases ss <;> exact absurd h Bool.false_ne_true
  | .exp _, W, X, ss, F, h => by cases ss <;> exact absurd h Bool.false_ne_true
  | .ret _, W, X, ss, F, h => by cases ss <;> exact absurd h Bool.false_ne_true
  | .ite _ _ _, W, X, ss, F, h => by cases ss <;> exact absurd h Bool.false_ne_true
  | .fr _ _ _, W, X, ss, F, h => by cases ss <;> exact absurd h Bool.false_ne_true
  | .wh _ _, W, X, ss, F, h => by cases ss <;> exact absurd h Bool.false_ne_true
  | .sat _ _ _ _, W, X, ss, F, h => by cases ss <;> exact absurd h Bool.false_ne_true
  | .st1 _ _ _, W, X, ss, F, h => by cases ss <;> exact absurd h Bool.false_ne_true
  | .dst _ _ _ _, W, X, ss, F, h => by cases ss <;> exact absurd h Bool.false_ne_true
  | .rse _, W, X, ss, F, h => by cases ss <;> exact absurd h Bool.false_ne_true
  | .tryO _ _ _ _, W, X, ss, F, h => by cases ss <;> exact absurd h Bool.false_ne_true
  | .tryW _ _ _ _ _ _, W, X, ss, F, h => by cases ss <;> exact absurd h Bool.false_ne_true
  | .wrd, W, X, ss, F, h => ⟨fun pins s σ H D I hw => by
      obtain ⟨_, _, _, _, _, _, hw⟩ := hw
      simp only [run] at hw
      exact hw.elim⟩
  | .st2 _ _ _ _ _, W, X, ss, F, h => by cases ss <;> exact absurd h Bool.false_ne_true
  | .isc _ _ _ _ _ _, W, X, ss, F, h => by cases ss <;> exact absurd h Bool.false_ne_true
  | .brk, W, X, ss, F, h => by cases ss <;> exact absurd h Bool.false_ne_true
  | .cnt, W, X, ss, F, h => by cases ss <;> exact absurd h Bool.false_ne_true
end
end
end PL

/-! PL10: defs by their tables, the law's end. -/
namespace PL
open PySem L2

/-! ### behind a call: the locations that were made are forgotten -/
noncomputable def Wd.cut (w : Wd) (n : Nat) : Wd := ⟨w.m.take n, w.p, w.H⟩
section
variable {K : PySem.W.Frag} {w w' : Wd} {n : Nat}
theorem cut_notin {a : Addr} (h : some a ∉ w.m) : some a ∉ (w.cut n).m := fun z => h (List.mem_of_mem_take z)
mutual
theorem Rep.cut : ∀ {v : PV} {u : V}, Rep K w v u → v.under n = true → Rep K (w.cut n) v u
  | _, _, .non, _ => .non
  | _, _, .bl b, _ => .bl b
  | _, _, .int i, _ => .int i
  | _, _, .str z h, _ => .str z h
  | _, _, .tup h r, q => .tup (by
      rcases h with ⟨h, n⟩ | h
      · exact .inl ⟨h, cut_notin n⟩
      · exact .inr h) (Reps.under_cut r (by simpa [PV.under] using q))
  | _, _, .lst h n r, q => .lst h ⟨cut_notin n.1, n.2⟩ (Reps.under_cut r (by simpa [PV.under] using q))
  | _, _, .scr h, q => .scr (by
      rcases h with ⟨o, h, n⟩ | h
      · exact .inl ⟨o, h, cut_notin n⟩
      · exact .inr h)
  | _, _, .ref h, q => .ref (by
      simp only [PV.under, decide_eq_true_eq] at q
      show (w.m.take n)[_]? = _
      rw [List.getElem?_take_of_lt q]; exact h)
  | _, _, .gone h, q => .gone (by
      simp only [PV.under, decide_eq_true_eq] at q
      show (w.m.take n)[_]? = _
      rw [List.getElem?_take_of_lt q]; exact h)
theorem Reps.under_cut : ∀ {v : List PV} {u : List V}, Reps K w v u → PV.unders n v = true → Reps K (w.cut n) v u
  | _, _, .nil, _ => .nil
  | _, _, .cons h r, q => by
    simp only [PV.unders, Bool.and_eq_true] at q
    exact .cons (Rep.cut h q.1) (Reps.under_cut r q.2)
end
mutual
theorem Rep.isUnder : ∀ {v : PV} {u : V}, Rep K w v u → v.under w.m.length = true
  | _, _, .non => by simp [PV.under]
  | _, _, .bl b => by simp [PV.under]
  | _, _, .int i => by simp [PV.under]
  | _, _, .str z h => by simp [PV.under]
  | _, _, .tup h r => by simp only [PV.under]; exact Reps.areUnder r
  | _, _, .lst h n r => by simp only [PV.under]; exact Reps.areUnder r
  | _, _, .scr h => by simp [PV.under]
  | _, _, .ref h => by
    simp only [PV.under, decide_eq_true_eq]
    exact (List.getElem?_eq_some_iff.mp h).1
  | _, _, .gone h => by
    simp only [PV.under, decide_eq_true_eq]
    exact (List.getElem?_eq_some_iff.mp h).1
theorem Reps.areUnder : ∀ {v : List PV} {u : List V}, Reps K w v u → PV.unders w.m.length v = true
  | _, _, .nil => by simp [PV.unders]
  | _, _, .cons h r => by simp only [PV.unders, Rep.isUnder h, Reps.areUnder r, Bool.and_self]
end
theorem RepF.reps : ∀ {v : Flds} {u : List (Str × V)}, RepF K w v u → Reps K w (v.map (·.2)) (u.map (·.2))
  | _, _, .nil => .nil
  | _, _, .cons h r => .cons h (RepF.reps r)
theorem RepF.under_cut : ∀ {v : Flds} {u : List (Str × V)}, RepF K w v u → PV.unders n (v.map (·.2)) = true → RepF K (w.cut n) v u
  | _, _, .nil, _ => .nil
  | _, _, .cons h r, q => by
    simp only [List.map_cons, PV.unders, Bool.and_eq_true] at q
    exact .cons (Rep.cut h q.1) (RepF.under_cut r q.2)
theorem RepD.under_cut : ∀ {v : DC} {u : List (List L2.Key × V)}, RepD K w v u → PV.unders n (v.map (·.2)) = true → RepD K (w.cut n) v u
  | _, _, .nil, _ => .nil
  | _, _, .cons h r, q => by
    simp only [List.map_cons, PV.unders, Bool.and_eq_true] at q
    exact .cons (Rep.cut h q.1) (RepD.under_cut r q.2)
theorem CellOk.isUnder {a : Addr} : ∀ {c : Cell}, CellOk K w a c → c.under w.m.length = true
  | .dead, h => h.elim
  | .lst xs, ⟨_, _, r⟩ => by simp only [Cell.under]; exact Reps.areUnder r
  | .obj _ _, ⟨_, _, _, _, _, r⟩ => by simp only [Cell.under]; exact Reps.areUnder r.reps
  | .dct true _, ⟨_, _, r⟩ => by simp only [Cell.under]; exact Reps.areUnder r.reps
  | .dct false _, ⟨_, _, r⟩ => by simp only [Cell.under]; exact Reps.areUnder r.reps
  | .fdc _, ⟨_, _, _, r⟩ => by simp only [Cell.under]; exact Reps.areUnder r.reps
theorem CellOk.cut {a : Addr} : ∀ {c : Cell}, CellOk K w a c → c.under n = true → CellOk K (w.cut n) a c
  | .dead, h, _ => h.elim
  | .lst xs, ⟨us, h, r⟩, q => ⟨us, h, Reps.under_cut r (by simpa [Cell.under] using q)⟩
  | .obj _ _, ⟨D, dx, us, h0, h, r⟩, q => ⟨D, dx, us, h0, h, RepF.under_cut r (by simpa [Cell.under] using q)⟩
  | .dct true _, ⟨us, h, r⟩, q => ⟨us, h, RepD.under_cut r (by simpa [Cell.under] using q)⟩
  | .dct false _, ⟨us, h, r⟩, q => ⟨us, h, RepD.under_cut r (by simpa [Cell.under] using q)⟩
  | .fdc _, ⟨o, us, h, r⟩, q => ⟨o, us, h, RepD.under_cut r (by simpa [Cell.under] using q)⟩
theorem oldOk_get : ∀ {st st' : Sto} {l : Nat} {c : Cell}, oldOk n st st' = true → st[l]? = some c → ∃ d, st'[l]? = some d ∧ (c = d ∨ d.under n = true)
  | [], _, _, _, _, h => by simp at h
  | c :: r, [], _, _, h, _ => by simp [oldOk] at h
  | c :: r, d :: s, 0, _, h, e => by
    simp only [oldOk, Bool.and_eq_true, Bool.or_eq_true] at h
    simp only [List.getElem?_cons_zero, Option.some.injEq] at e
    subst e
    refine ⟨d, rfl, ?_⟩
    rcases h.1 with z | z
    · exact .inl (Cell.eq_of_beq z)
    · exact .inr z
  | c :: r, d :: s, l + 1, c', h, e => by
    simp only [oldOk, Bool.and_eq_true] at h
    obtain ⟨d', e1, e2⟩ := oldOk_get (l := l) (c := c') h.2 (by simpa using e)
    exact ⟨d', by simpa using e1, e2⟩
theorem cut_le (hw : w.le w') (hn : n = w.m.length) : w.le (w'.cut n) where
  len := by
    show w.m.length ≤ (w'.m.take n).length
    rw [List.length_take, hn]
    have := hw.len
    omega
  loc := fun l a e => by
    have hl : l < n := by rw [hn]; exact (List.getElem?_eq_some_iff.mp e).1
    show (w'.m.take n)[l]? = _ ∨ (w'.m.take n)[l]? = _
    rw [List.getElem?_take_of_lt hl]
    exact hw.loc l a e
  dead := fun l e => by
    have hl : l < n := by rw [hn]; exact (List.getElem?_eq_some_iff.mp e).1
    show (w'.m.take n)[l]? = _
    rw [List.getElem?_take_of_lt hl]
    exact hw.dead l e
  keep := hw.keep
  fresh := fun a e => hw.fresh a (List.mem_of_mem_take e)
  priv := hw.priv
  freshp := hw.freshp
  trk := hw.trk
  lck := hw.lck
theorem StOk.cut {st st' : Sto} (hw : w.le w') (h : StOk K w st) (h' : StOk K w' st') (ho : oldOk st.length st st' = true) : StOk K (w'.cut st.length) (st'.take st.length) where
  len := by
    show (w'.m.take st.length).length = (st'.take st.length).length
    rw [List.length_take, List.length_take, h'.len]
  inj := fun l l' a e e' => by
    have k1 : l < st.length := by
      have := (List.getElem?_eq_some_iff.mp e).1
      rw [show (w'.cut st.length).m = w'.m.take st.length from rfl, List.length_take] at this
      omega
    have k2 : l' < st.length := by
      have := (List.getElem?_eq_some_iff.mp e').1
      rw [show (w'.cut st.length).m = w'.m.take st.length from rfl, List.length_take] at this
      omega
    rw [show (w'.cut st.length).m = w'.m.take st.length from rfl, List.getElem?_take_of_lt k1] at e
    rw [show (w'.cut st.length).m = w'.m.take st.length from rfl, List.getElem?_take_of_lt k2] at e'
    exact h'.inj l l' a e e'
  cell := fun l a e => by
    have k1 : l < st.length := by
      have := (List.getElem?_eq_some_iff.mp e).1
      rw [show (w'.cut st.length).m = w'.m.take st.length from rfl, List.length_take] at this
      omega
    rw [show (w'.cut st.length).m = w'.m.take st.length from rfl, List.getElem?_take_of_lt k1] at e
    obtain ⟨c, hc, ok⟩ := h'.cell l a e
    refine ⟨c, by rw [List.getElem?_take_of_lt k1]; exact hc, ok.cut ?_⟩
    obtain ⟨d, hd, hu⟩ := oldOk_get ho (List.getElem?_eq_getElem k1)
    rw [hc] at hd
    cases hd
    rcases hu with hu | hu
    · have kw : l < w.m.length := by rw [h.len]; exact k1
      cases q : w.m[l]? with
      | none => rw [List.getElem?_eq_getElem kw] at q; cases q
      | some o =>
        cases o with
        | none => rw [hw.dead l q] at e; cases e
        | some b =>
          obtain ⟨c0, hc0, ok0⟩ := h.cell l b q
          rw [List.getElem?_eq_getElem k1] at hc0
          cases hc0
          rw [← hu]
          have := ok0.isUnder
          rw [h.len] at this
          exact this
    · exact hu
  prv := h'.prv
  dis := fun a q => h'.dis a (List.mem_of_mem_take q)
  gone := fun l e => by
    have k1 : l < st.length := by
      have := (List.getElem?_eq_some_iff.mp e).1
      rw [show (w'.cut st.length).m = w'.m.take st.length from rfl, List.length_take] at this
      omega
    rw [show (w'.cut st.length).m = w'.m.take st.length from rfl, List.getElem?_take_of_lt k1] at e
    rw [List.getElem?_take_of_lt k1]
    exact h'.gone l e
end
theorem envOk_start {K : PySem.W.Frag} {w : Wd} {d : Dd} {args : List PV} {vs : List V} (r : Reps K w args vs) : EnvOk K w (start d args) (L2.start d.N vs) := fun i v e => by
  unfold PL.start at e
  unfold L2.start
  have hl := r.length
  by_cases hi : i < args.length
  · rw [List.getElem?_append_left (by simpa using hi), List.getElem?_map] at e
    rw [List.getElem?_append_left (by simp; omega), List.getElem?_map]
    obtain ⟨x, e1, e2⟩ := Option.map_eq_some_iff.mp e
    cases e2
    obtain ⟨u, h1, h2⟩ := r.get e1
    exact ⟨u, by rw [h1]; rfl, h2⟩
  · rw [List.getElem?_append_right (by simpa using hi), List.getElem?_replicate] at e
    split at e <;> cases e

/-- texts that are constants -/
theorem Rep.strOf {K : PySem.W.Frag} {wd : Wd} {s : List Nat} {z : Str} (h : z.cps.toList = s) (hz : s.length ≤ SZ) : Rep K wd (.str s) (.str z) := by
  subst h
  exact .str z (by rw [PL.len_eq]; exact hz)
theorem SqI.ofK {K : PySem.W.Frag} {wd : Wd} {A : Addr} {od : Option Addr} {its : List Value} {n : Nat} {osl : Array (Option Value)} {us : List V} (l : K.lookup A = some ⟨.type "tuple", od, .seq its.toArray n, osl⟩) (hz : its.length ≤ sizeLine) (v : Vals us its) (q : ∃ z, V.str z ∈ us) : SqI K wd A us :=
  .inr ⟨q, _, its.toArray, n, l, rfl, rfl, by simpa using hz, by simpa using v⟩

/-- a class of the text: what its making left -/
structure KlAt (K : PySem.W.Frag) (name : Str) (fs : List Str) : Prop where
  ex : ∃ C : Addr, PySem.W.nsIn K mainGlobals name = some (some (.ref C)) ∧ Cls K C ∧ PySem.W.makesIn K C = true ∧ PySem.W.keepIn K (.ref C) = true ∧ ∀ f ∈ fs, NoAttr K C f
theorem KlAt.of {K : PySem.W.Frag} {name : Str} {fs : List Str} {C : Addr} (a : PySem.W.nsIn K mainGlobals name = some (some (.ref C))) (pg : PySem.W.plainGet K C Str.empty = true) (hd : PySem.W.hasDictIn K C = true) (po : PySem.W.plainOver K C = true)
    (sa : PySem.W.findIn K (.ref C) "__setattr__" = some (some (.builtin "object.__setattr__"))) (mk : PySem.W.makesIn K C = true) (kc : PySem.W.keepIn K (.ref C) = true) (n : ∀ f ∈ fs, NoAttr K C f) : KlAt K name fs := ⟨C, a, ⟨pg, hd, po, sa⟩, mk, kc, n⟩
/-- a def of the text, where it stands -/
structure DefAt (K : PySem.W.Frag) (name : Str) (ps : List Str) (cls qual : Str) (st : Stmt) : Prop where
  ex : ∃ (f : Addr) (fd : FuncData), (cls = "" → PySem.W.nsIn K mainGlobals name = some (some (.ref f))) ∧ (cls ≠ "" → ∃ C : Addr, PySem.W.nsIn K mainGlobals cls = some (some (.ref C)) ∧ Meth K C name f) ∧
    L2.Fun K (if cls = "" then qual else name) qual st f fd ∧ ∀ us : List Value, us.length = ps.length → bindArgs fd ⟨us, []⟩ = pure (ps.zip us)
theorem DefAt.of {K : PySem.W.Frag} {name qual : Str} {ps : List Str} {st : Stmt} {f : Addr} {oc : Value} {od an : Option Addr} {osl : Array (Option Value)} {kV doc pm cdv ct : Value}
    (a : PySem.W.nsIn K mainGlobals name = some (some (.ref f))) (l : K.lookup f = some ⟨oc, od, .func (PySem.W.fnOf qual qual (defArgs st) (defBody st) (defScope st) .none kV doc pm an cdv ct), osl⟩)
    (c : PySem.W.codeIn K cdv qual = true) (k : PySem.W.keepIn K (.ref f) = true)
    (b : ∀ (kV doc pm : Value) (an : Option Addr) (cdv ct : Value) (us : List Value), us.length = ps.length → bindArgs (PySem.W.fnOf qual qual (defArgs st) (defBody st) (defScope st) .none kV doc pm an cdv ct) ⟨us, []⟩ = pure (ps.zip us)) : DefAt K name ps "" qual st :=
  ⟨f, _, fun _ => a, fun z => (z rfl).elim, by rw [if_pos rfl]; exact fun_mk l c k, b kV doc pm an cdv ct⟩
theorem DefAt.ofM {K : PySem.W.Frag} {name cls qual : Str} {ps : List Str} {st : Stmt} {C f : Addr} {oc : Value} {od an : Option Addr} {osl : Array (Option Value)} {kV doc pm cdv ct : Value} (hne : cls ≠ "") (aC : PySem.W.nsIn K mainGlobals cls = some (some (.ref C)))
    (a : PySem.W.findIn K (.ref C) name = some (some (.ref f))) (i : PySem.W.isFn K (.ref f) = true) (l : K.lookup f = some ⟨oc, od, .func (PySem.W.fnOf name qual (defArgs st) (defBody st) (defScope st) .none kV doc pm an cdv ct), osl⟩)
    (c : PySem.W.codeIn K cdv qual = true) (k : PySem.W.keepIn K (.ref f) = true)
    (b : ∀ (kV doc pm : Value) (an : Option Addr) (cdv ct : Value) (us : List Value), us.length = ps.length → bindArgs (PySem.W.fnOf name qual (defArgs st) (defBody st) (defScope st) .none kV doc pm an cdv ct) ⟨us, []⟩ = pure (ps.zip us)) : DefAt K name ps cls qual st :=
  ⟨f, _, fun z => (hne z).elim, fun _ => ⟨C, aC, a, i, k⟩, by rw [if_neg hne]; exact fun_mk l c k, b kV doc pm an cdv ct⟩

noncomputable def scC (N ps : List Str) (sc : Scope) : Bool :=
  (match sc.kind with
    | .function => true
    | _ => false) && !sc.isCoroutine && !sc.isGenerator && decide N.Nodup && decide (N.take ps.length = ps) &&
  ps.all (fun x => isLoc sc x) && sc.names.all (fun y => match y.2 with
    | .free => false
    | _ => true)
theorem scC_of {N ps : List Str} {sc : Scope} (h : scC N ps sc = true) : FnScope N ps sc := by
  unfold scC at h
  simp only [Bool.and_eq_true, Bool.not_eq_true', decide_eq_true_eq, List.all_eq_true] at h
  obtain ⟨⟨⟨⟨⟨⟨h1, h2⟩, h3⟩, h4⟩, h5⟩, h6⟩, h7⟩ := h
  refine ⟨?_, h2, h3, h4, h5, fun x hx => ?_, fun y hy e => ?_⟩
  · split at h1
    · assumption
    · cases h1
  · have := h6 x hx
    unfold isLoc at this
    split at this
    · left; assumption
    · right; assumption
    · cases this
  · have := h7 y hy
    rw [e] at this
    cases this
/-- a def by its body; its code object is the module's -/
theorem okC {P : Program} {w : World} {K : PySem.W.Frag} {mg : Str → Option Value} {base : Heap} {x qual : Str} {st : Stmt} {f : Addr} {fd : FuncData} {N ps : List Str} {k : Nat} {sp : Sp} (F : L2.Fun K x qual st f fd) (S : FnScope N ps (defScope st)) (len : ∀ vs H Q E, sp vs H Q E → vs.length = ps.length)
    (hbody : ∀ (cdv : Value) (A : Around) (outer : List PySem.Env) (s : Shared) (H : Hp) (vs : List V) (Q : VK) (E : XK), PySem.W.kdsCode K cdv = true → Room k (A.deeper (PyProof.Rows.envOfC qual (defScope st) s.heap.objs.size f cdv)) → sp vs H Q E →
      ∃ t, L2.PSs (cxOf (L2.CX P w) P w K mg base N qual (defScope st) f cdv A outer s H E) (defBody st) t ∧ t { nx := fun _ H' => Q .non H', rt := Q } (L2.start N vs) H) : FnOk P w K mg base (L2.CX P w) (k + 1) f fd ps sp := by
  obtain ⟨oc, od, kV, doc, pm, an, cdv, ct, osl, rfl, lk, hcd⟩ := F.ex
  exact fn_of lk hcd S len fun A outer s H vs Q E hr hsp => hbody cdv A outer s H vs Q E (kdsCode_of hcd) hr hsp
/-- the table is the text's -/
noncomputable def tabOk (B : Tb) : Tab → List Stmt → Bool
  | [], [] => true
  | (_, d) :: ds, s :: ss => (decide (d.cls = "") || B.ks.any fun p => decide (p.1 = d.cls)) && scC d.N d.ps (defScope s) && chSs B d.N (defScope s) d.body (defBody s) && tabOk B ds ss
  | _, _ => false
noncomputable def defsAt (K : PySem.W.Frag) : Tab → List Stmt → Prop
  | [], [] => True
  | (_, d) :: ds, s :: ss => DefAt K d.name d.ps d.cls d.qual s ∧ defsAt K ds ss
  | _, _ => False
theorem tab_get {B : Tb} {K : PySem.W.Frag} : ∀ {ds : Tab} {ss : List Stmt} {i : Nat} {d : Dd}, tabOk B ds ss = true → defsAt K ds ss → ds.lookup i = some d →
    ∃ s, FnScope d.N d.ps (defScope s) ∧ chSs B d.N (defScope s) d.body (defBody s) = true ∧ DefAt K d.name d.ps d.cls d.qual s ∧ (d.cls = "" ∨ ∃ p ∈ B.ks, p.1 = d.cls)
  | [], _, _, _, _, _, h => by simp at h
  | d :: ds, [], _, _, h, _, _ => by simp [tabOk] at h
  | (j, d) :: ds, s :: ss, i, d', h, k, e => by
    simp only [tabOk, Bool.and_eq_true] at h
    rw [List.lookup_cons] at e
    by_cases hij : i = j
    · subst hij
      simp only [beq_self_eq_true, Option.some.injEq] at e
      subst e
      refine ⟨s, scC_of h.1.1.2, h.1.2, k.1, ?_⟩
      have h0 := h.1.1.1
      rw [Bool.or_eq_true, decide_eq_true_eq, List.any_eq_true] at h0
      rcases h0 with z | ⟨p, hp, z⟩
      · exact .inl z
      · exact .inr ⟨p, hp, by simpa using z⟩
    · rw [beq_eq_false_iff_ne.mpr hij] at e
      exact tab_get (i := i) h.2 k.2 e

/-- the exception classes of the text -/
noncomputable def ExcsAt (K : PySem.W.Frag) (es : List (Str × Nat)) (cl : Nat → Value) : Prop :=
  (∀ p ∈ es, ∃ C : Addr, cl p.2 = .ref C ∧ ExcAt K p.1 C) ∧ ∀ p ∈ es, ∀ q ∈ es, PySem.W.exmOne K (cl p.2) (cl q.2) = some (catches p.2 q.2)
noncomputable def wrdB : PS → Bool
  | .wrd => true
  | _ => false
/-- what the law's end shows of the def of the words -/
noncomputable def WordAt (K : PySem.W.Frag) (B : Tb) (cl : Nat → Value) : Prop := ∀ i, B.wd = some i → (∃ d, B.T.lookup i = some d ∧ d.N = (["kept", "kinds"] : List Str) ∧ d.ps = (["kept"] : List Str) ∧ d.cls = "" ∧ wrdB d.body = true) ∧ ("isinstance" : Str) ∈ B.bs ∧ ("ValueError" : Str) ∈ B.bs ∧
  (∀ p ∈ ([("NoWay", 1), ("BadSum", 2), ("NoText", 3), ("NoPicture", 4), ("NoRoom", 5), ("NoLine", 6), ("NoDeed", 7)] : List (Str × Nat)), p ∈ B.es) ∧ ∀ c, 1 ≤ c → c ≤ 7 → WrdAt K cl c
section
variable {B : Tb} {cl : Nat → Value} {P : Program} {w : World} {K : PySem.W.Frag} {mg : Str → Option Value} {base : Heap}
theorem word_ok {ss : List Stmt} (ht : tabOk B B.T ss = true) (hd : defsAt K B.T ss) (hg : ∀ x v, PySem.W.nsIn K mainGlobals x = some (some v) → mg x = some v) (hb : ∀ x ∈ B.bs, mg x = none) (hx : ExcsAt K B.es cl) (hw : WordAt K B cl) :
    ∀ i, B.wd = some i → ∃ d, B.T.lookup i = some d ∧ WordF K mg cl d.name := fun i hi => by
  obtain ⟨⟨d, hl, hN, hps, hcls, hbd⟩, b1, b2, hes, hwr⟩ := hw i hi
  obtain ⟨s, S, c, ⟨f, fd, a, _, F, b⟩, _⟩ := tab_get ht hd hl
  refine ⟨d, hl, ⟨f, fd, _, d.qual, s, hg _ _ (a hcls), F, ?_, ?_, ?_, ?_⟩, hb _ b1, hb _ b2, fun C n hm => ?_, hwr⟩
  · rw [hN, hps] at S; exact S
  · cases hq : d.body <;> rw [hq] at hbd c <;> first | (cases hbd; done) | (simp only [chSs, Bool.and_eq_true] at c; exact c.1)
  · cases hq : d.body <;> rw [hq] at hbd c <;> first | (cases hbd; done) | (simp only [chSs, Bool.and_eq_true] at c; exact c.2)
  · rw [hps] at b; exact .all b
  · obtain ⟨D, e1, e2⟩ := hx.1 _ (hes _ hm)
    rw [e1]
    exact hg _ _ e2.ns
theorem def_ok {m k i : Nat} {nm : Str} {d : Dd} {s : Stmt} {f : Addr} {fd : FuncData} (G : GOk B cl (callF B.T m) k P w K mg base) (hd : B.T.lookup i = some d) (S : FnScope d.N d.ps (defScope s)) (hc : chSs B d.N (defScope s) d.body (defBody s) = true)
    (F : L2.Fun K nm d.qual s f fd) : FnOk P w K mg base (L2.CX P w) (k + 2) f fd d.ps (spF K cl (callF B.T (m + 1)) d.ps.length i) := by
  refine okC F S (fun vs H Q E h => h.1) fun cdv A outer s0 H vs Q E hcv hr h => ?_
  obtain ⟨hl, w0, st, args, rfl, hs, ra, h⟩ := h
  have fit : FitS B cl (callF B.T m) k d.N (defScope s) (fun cls dd _ H => E cls dd H) (cxOf (L2.CX P w) P w K mg base d.N d.qual (defScope s) f cdv A outer s0 w0.H E) :=
    { fit := { gok := G, hN := rfl, nd := S.nd, srl := ⟨S.kind, fun x kd e => ⟨kd, e, .inl rfl⟩⟩, fnm := fun _ _ => rfl, calm := rfl, room := hr, tk := takes_of rfl rfl rfl rfl }
      sce := rfl
      po := passes_of rfl
      stk := rfl
      frm := rfl
      code := hcv }
  refine ⟨rdS K cl (fun cls dd _ H => E cls dd H) (callF B.T m) d.body, sSs d.body _ _ (defBody s) fit hc, w0, start d args, st, rfl, envOk_start ra, hs, ?_⟩
  simp only [callF, hd, runD] at h
  rw [if_pos (by rw [ra.length, hl])] at h
  have fn : ∀ (v : PV) (st1 : Sto), RdR K cl E (Rep K) w0 (fin st v st1) Q → ∀ w' u, w0.le w' → StOk K w' st1 → Rep K w' v u → Q u w'.H := fun v st1 h w' u k1 k2 k3 => by
    unfold fin at h
    split at h
    · rename_i hq
      rw [Bool.and_eq_true] at hq
      exact h (w'.cut st.length) u (cut_le k1 hs.len.symm) (hs.cut k1 k2 hq.2) (k3.cut hq.1)
    · exact h w' u k1 k2 k3
  cases q : run (callF B.T m) d.body (start d args) st with
  | next e1 st1 =>
    rw [q] at h
    exact fun w' σ' k1 k2 k3 => fn .non st1 h w' .non k1 k2 .non
  | ret v st1 =>
    rw [q] at h
    exact fun w' u k1 k2 k3 => fn v st1 h w' u k1 k2 k3
  | exc c e1 st1 =>
    rw [q] at h
    intro w' σ' k1 k2 k3
    simp only [finX] at h
    split at h
    · rename_i hq
      exact h (w'.cut st.length) (cut_le k1 hs.len.symm) (hs.cut k1 k2 hq)
    · exact h w' k1 k2
  | brk e1 st1 => rw [q] at h; exact h.elim
  | cnt e1 st1 => rw [q] at h; exact h.elim
  | stuck => rw [q] at h; exact h.elim
theorem kl_ok (hk : ∀ p ∈ B.ks, KlAt K p.1 p.2) : ∀ p ∈ B.ks, ∃ C : Addr, PySem.W.nsIn K mainGlobals p.1 = some (some (.ref C)) ∧ Cls K C ∧ ∀ f ∈ p.2, NoAttr K C f := fun p hp => by
  obtain ⟨C, a, c, _, _, n⟩ := (hk p hp).ex
  exact ⟨C, a, c, n⟩
theorem fn_at {d : Dd} {f : Addr} (hg : ∀ x v, PySem.W.nsIn K mainGlobals x = some (some v) → mg x = some v) (hk : ∀ p ∈ B.ks, KlAt K p.1 p.2) (hc : d.cls = "" ∨ ∃ p ∈ B.ks, p.1 = d.cls)
    (h : d.cls ≠ "" → ∃ C : Addr, PySem.W.nsIn K mainGlobals d.cls = some (some (.ref C)) ∧ Meth K C d.name f) :
    d.cls ≠ "" → ∃ C : Addr, PySem.W.nsIn K mainGlobals d.cls = some (some (.ref C)) ∧ mg d.cls = some (.ref C) ∧ Cls K C ∧ Meth K C d.name f ∧ (d.name = "__init__" → Mk K C f) := fun hn => by
  obtain ⟨C, a, m⟩ := h hn
  rcases hc with z | ⟨p, hp, z⟩
  · exact (hn z).elim
  · obtain ⟨C', a', c, mk, kc, _⟩ := (hk p hp).ex
    rw [z, a] at a'
    cases a'
    exact ⟨C, a, hg _ _ a, c, m, fun e => ⟨mk, by rw [← e]; exact m.at_, m.fn, kc⟩⟩
theorem all_ok {ss : List Stmt} (ht : tabOk B B.T ss = true) (hd : defsAt K B.T ss) (hg : ∀ x v, PySem.W.nsIn K mainGlobals x = some (some v) → mg x = some v) (hb : ∀ x ∈ B.bs, mg x = none)
    (hc : ∀ p ∈ B.cs, ∃ u V, mg p.1 = some u ∧ RelV V u ∧ ∀ wd, Rep K wd p.2 V) (hk : ∀ p ∈ B.ks, KlAt K p.1 p.2) (hx : ExcsAt K B.es cl) (hw : WordAt K B cl) : ∀ m, GOk B cl (callF B.T m) (2 * m) P w K mg base
  | 0 => by
    refine ⟨fun i d e => ?_, hb, hc, kl_ok hk, fun p hp => (hx.1 p hp).imp fun C z => ⟨hg _ _ z.2.ns, z.1, z.2⟩, hx.2, word_ok ht hd hg hb hx hw⟩
    obtain ⟨s, S, c, ⟨f, fd, a, a2, F, b⟩, hcl⟩ := tab_get ht hd e
    refine ⟨f, fd, fun z => hg _ _ (a z), fn_at hg hk hcl a2, F.kp, .all b, fun vs H Q E h => h.1, fun A outer s H args us vs Q E _ _ _ _ h => ?_⟩
    obtain ⟨_, _, _, _, _, _, _, h⟩ := h
    exact h.elim
  | m + 1 => by
    refine ⟨fun i d e => ?_, hb, hc, kl_ok hk, fun p hp => (hx.1 p hp).imp fun C z => ⟨hg _ _ z.2.ns, z.1, z.2⟩, hx.2, word_ok ht hd hg hb hx hw⟩
    obtain ⟨s, S, c, ⟨f, fd, a, a2, F, b⟩, hcl⟩ := tab_get ht hd e
    exact ⟨f, fd, fun z => hg _ _ (a z), fn_at hg hk hcl a2, F.kp, .all b, def_ok (all_ok ht hd hg hb hc hk hx hw m) e S c F⟩
end

/-! ### the law's end -/
theorem exm_mk {K : PySem.W.Frag} {c : Value} {S : Addr} {b : Bool} (h1 : PySem.W.subIn K (.ref S) (.type "BaseException") = some true) (h2 : PySem.W.isClsIn K S = true) (h3 : PySem.W.typeIn K (.ref S) = some (.type "type")) (h4 : PySem.W.subIn K c (.ref S) = some b) : PySem.W.exmOne K c (.ref S) = some b := by
  have e2 : (PySem.W.clsIn K S).isSome = true := h2
  simp only [PySem.W.exmOne, PySem.W.kitCls]
  simp [h1, h3, e2, h4]
theorem excs_none {K : PySem.W.Frag} : ∃ cl, ExcsAt K [] cl := ⟨fun _ => .none, fun p hp => by simp at hp, fun p hp => by simp at hp⟩
theorem no_word {K : PySem.W.Frag} {B : Tb} (h : B.wd = none) (hx : ∃ cl, ExcsAt K B.es cl) : ∃ cl, ExcsAt K B.es cl ∧ WordAt K B cl := by
  obtain ⟨cl, e⟩ := hx
  exact ⟨cl, e, fun i z => by rw [h] at z; cases z⟩
/-- what the law promises: for at most 63 ints the answer is True -/
noncomputable def spLaw (K : PySem.W.Frag) : Sp := fun vs H Q _ => ∃ (a : Addr) (ns : List Int), vs = [.ref a] ∧ SqL K H a (ns.map V.int) ∧ Only H ∧ ns.length ≤ 63 ∧ ∀ H', Q (.bl true) H'
noncomputable def LawTrue (T : Tab) (m i : Nat) : Prop := ∀ ns : List Int, ns.length ≤ 63 → ∃ st, callF T m i [.scr ns] [] = .ok (.bl true) st
theorem law_ok {B : Tb} {P : Program} {w : World} {K : PySem.W.Frag} {mg : Str → Option Value} {ss : List Stmt} {m i : Nat} {d : Dd} (ht : tabOk B B.T ss = true) (hd : defsAt K B.T ss)
    (hg : ∀ x v, PySem.W.nsIn K mainGlobals x = some (some v) → mg x = some v) (hb : ∀ x ∈ B.bs, mg x = none)
    (hc : ∀ p ∈ B.cs, ∃ u V, mg p.1 = some u ∧ RelV V u ∧ ∀ wd, Rep K wd p.2 V) (hk : ∀ p ∈ B.ks, KlAt K p.1 p.2) (hx : ∃ cl, ExcsAt K B.es cl ∧ WordAt K B cl) (hi : B.T.lookup i = some d) (hn : d.name = "law") (hn0 : d.cls = "") (hp : d.ps = [("script" : Str)]) (law : LawTrue B.T (m + 1) i) {fa : Addr} (hfa : mg "law" = some (.ref fa)) :
    ∃ fd : FuncData, (∀ (s : Shared) (u : Value), BindsTo s fd ⟨[u], []⟩ [("script", u)]) ∧ ∀ base : Heap, FnOk P w K mg base (L2.CX P w) (2 * m + 2) fa fd ["script"] (spLaw K) := by
  obtain ⟨cl, hx, hw⟩ := hx
  obtain ⟨s, S, c, ⟨f, fd, a, _, F, b⟩, _⟩ := tab_get ht hd hi
  have e1 := hg _ _ (a hn0)
  rw [hn, hfa] at e1
  cases e1
  refine ⟨fd, fun s u => .of_eq ?_, fun base => ?_⟩
  · have := b [u] (by rw [hp]; rfl)
    rw [hp] at this
    exact this
  · have e4 := def_ok (all_ok (cl := cl) (P := P) (w := w) (base := base) ht hd hg hb hc hk hx hw m) hi S c F
    rw [hp] at e4
    refine e4.imp fun vs H Q E h => ?_
    obtain ⟨a, ns, rfl, hS, hO, hl, q⟩ := h
    obtain ⟨st, e⟩ := law ns hl
    refine ⟨rfl, ⟨[], [], H⟩, [], [.scr ns], rfl, ⟨rfl, fun l l' a e => by simp at e, fun l a e => by simp at e, fun a e => by simp at e, fun a e => by simp at e, fun l e => by simp at e⟩, .cons (.scr ?_) .nil, ?_⟩
    · rcases hS with (h | ⟨o, h⟩) | h
      · rcases hO a with z | ⟨o, xs, z⟩
        · rw [h] at z; cases z
        · rw [h] at z; cases z
      · exact .inl ⟨o, h, by simp⟩
      · exact .inr h
    · rw [e]
      intro w' u _ _ r
      cases r.bl_inv
      exact q _
theorem walk {l : PySem.W.OpenLaw} {q : Program} {loose : List Str} {XP : (Str → Option Value) → Heap → Prop} {YP : World → Heap → Prop} {d : DefRec} {K : Params → PySem.W.Frag} {m : Nat} (hn : l.most = some 63) (hdf : d.params.defaults = []) (hr : Room m callerA)
    (hname : d.name = "law") (hY : ∀ (w : World) (h : Heap), YP w h → (K w.params).In h)
    (HB : ∀ (w : World) (mg : Str → Option Value) (fa : Addr) (h : Heap), (K w.params).In h → h.Ns mainGlobals mg → mg "law" = some (.ref fa) → ∃ fd : FuncData, (∀ (s : Shared) (u : Value), BindsTo s fd ⟨[u], []⟩ [("script", u)]) ∧
      ∀ base : Heap, FnOk l.prog w (K w.params) mg base (L2.CX l.prog w) m fa fd ["script"] (spLaw (K w.params))) :
    PySem.W.WalkO q loose XP YP l.row.toRowW d [] (fun f vs => PySem.call f vs) :=
  L2.walk_of (n := 63) (k := m) (x := "script") (CX := fun w => L2.CX l.prog w) (sp := fun w => spLaw (K w.params)) hn (by decide) hdf hr hY
    (fun w mg fa h KX G hmg => by
      rw [hname] at hmg
      obtain ⟨fd, h1, h2⟩ := HB w mg fa h KX G hmg
      exact ⟨fd, h1, fun base _ _ => h2 base⟩)
    (fun _ _ a ns hl hO hS => ⟨a, ns, rfl, hS, hO, hl, fun _ => rfl⟩) fun w H s e s' z => by
      obtain ⟨_, _, _, _, _, _, _, _, _, _, _, _, z⟩ := z
      exact z
end PL

/-! HD: a law's end over a head that is run once (its facts read by a hook). -/
namespace PL
open PySem L2 PyProof.Rows
theorem walkE {l : PySem.W.OpenLaw} {q : Program} {loose : List Str} {XP : (Str → Option Value) → Heap → Prop} {YP : World → Heap → Prop} {S : PySem.W.Frag → Prop} {d : DefRec} {m : Nat} (hn : l.most = some 63) (hdf : d.params.defaults = []) (hr : Room m callerA)
    (hname : d.name = "law") (hY : ∀ (w : World) (h : Heap), YP w h → ∃ K : PySem.W.Frag, K.In h ∧ S K)
    (HB : ∀ (w : World) (K : PySem.W.Frag) (mg : Str → Option Value) (fa : Addr) (h : Heap), S K → K.In h → h.Ns mainGlobals mg → mg "law" = some (.ref fa) → ∃ fd : FuncData, (∀ (s : Shared) (u : Value), BindsTo s fd ⟨[u], []⟩ [("script", u)]) ∧
      ∀ base : Heap, FnOk l.prog w K mg base (L2.CX l.prog w) m fa fd ["script"] (spLaw K)) :
    PySem.W.WalkO q loose XP YP l.row.toRowW d [] (fun f vs => PySem.call f vs) := by
  intro w s0 s1 mg mb G Y
  obtain ⟨K, KX, hS⟩ := hY w s1.heap Y
  exact walk (K := fun _ => K) (YP := fun w' h => h = s1.heap) hn hdf hr hname (fun w' h e => by rw [e]; exact KX) (fun w' mg fa h KX G hmg => HB w' K mg fa h hS KX G hmg) w s0 s1 mg mb G rfl
theorem DefAt.ofE {K : PySem.W.Frag} {name qual : Str} {ps : List Str} {st : Stmt} (F : ∃ fd, FunD K qual qual (defArgs st) (defBody st) (defScope st) [] [] (He.ga K name) fd) (g : He.Fa.ok K (.glo name) = true)
    (b : ∀ (kV doc pm : Value) (an : Option Addr) (cdv ct : Value) (us : List Value), us.length = ps.length → bindArgs (PySem.W.fnOf qual qual (defArgs st) (defBody st) (defScope st) .none kV doc pm an cdv ct) ⟨us, []⟩ = pure (ps.zip us)) : DefAt K name ps "" qual st := by
  obtain ⟨fd, ⟨oc, od, dV, kV, doc, pm, an, cdv, ct, osl, rfl, l, c, hd, _⟩, kp⟩ := F
  rcases hd with ⟨_, rfl⟩ | ⟨z, _⟩
  · exact ⟨He.ga K name, _, fun _ => He.eqO_ok g, fun z => (z rfl).elim, by rw [if_pos rfl]; exact fun_mk l c kp, b kV doc pm an cdv ct⟩
  · exact (z rfl).elim
theorem DefAt.ofEM {K : PySem.W.Frag} {name cls qual : Str} {ps : List Str} {st : Stmt} (hne : cls ≠ "") (F : ∃ fd, FunD K name qual (defArgs st) (defBody st) (defScope st) [] [] (He.ma K (He.ga K cls) name) fd) (g : He.Fa.ok K (.glo cls) = true) (mt : He.Fa.ok K (.meth cls name) = true)
    (b : ∀ (kV doc pm : Value) (an : Option Addr) (cdv ct : Value) (us : List Value), us.length = ps.length → bindArgs (PySem.W.fnOf name qual (defArgs st) (defBody st) (defScope st) .none kV doc pm an cdv ct) ⟨us, []⟩ = pure (ps.zip us)) : DefAt K name ps cls qual st := by
  obtain ⟨fd, ⟨oc, od, dV, kV, doc, pm, an, cdv, ct, osl, rfl, l, c, hd, _⟩, kp⟩ := F
  rcases hd with ⟨_, rfl⟩ | ⟨z, _⟩
  · exact ⟨He.ma K (He.ga K cls) name, _, fun z => (hne z).elim, fun _ => ⟨He.ga K cls, He.eqO_ok g, He.meth_ok mt⟩, by rw [if_neg hne]; exact fun_mk l c kp, b kV doc pm an cdv ct⟩
  · exact (z rfl).elim
theorem KlAt.ofE {K : PySem.W.Frag} {name : Str} {fs : List Str} (g : He.Fa.ok K (.glo name) = true) (c : He.Fa.ok K (.cls name) = true) (mk : He.Fa.ok K (.mkr name) = true) (n : ∀ f ∈ fs, NoAttr K (He.ga K name) f) : KlAt K name fs :=
  ⟨He.ga K name, He.eqO_ok g, He.cls_ok c, (He.mkr_ok mk).makes, (He.mkr_ok mk).kp, n⟩
theorem ExcAt.ofE {K : PySem.W.Frag} {x : Str} (g : He.Fa.ok K (.glo x) = true) (e : He.Fa.ok K (.exc x) = true) : ExcAt K x (He.ga K x) :=
  ⟨He.eqO_ok g, (He.exc_ok e).1, (He.exc_ok e).2.1, (He.exc_ok e).2.2.1, (He.exc_ok e).2.2.2⟩
theorem vals_of : ∀ {its : List Value} {ws : List Str}, its.length = ws.length → ((its.zip ws).all fun p => match p.1 with
      | .str z _ => decide (z = p.2)
      | _ => false) = true → Vals (ws.map V.str) its
  | [], [], _, _ => .nil
  | [], _ :: _, h, _ => by cases h
  | _ :: _, [], h, _ => by cases h
  | v :: its, z :: ws, h, q => by
    simp only [List.zip_cons_cons, List.all_cons, Bool.and_eq_true] at q
    refine .cons ?_ (vals_of (by simpa using h) q.2)
    cases v with
    | str y t =>
      have := of_decide_eq_true q.1
      exact ⟨t, by rw [this]⟩
    | _ => cases q.1
theorem tupHd_ok {K : PySem.W.Frag} {x z0 : Str} {ws : List Str} (h : tupHd K x (z0 :: ws) = true) : ∃ a, PySem.W.nsIn K mainGlobals x = some (some (.ref a)) ∧ ∀ wd, SqI K wd a ((z0 :: ws).map V.str) := by
  unfold tupHd at h
  split at h
  · rename_i a e
    split at h
    · rename_i t od its n osl l
      simp only [Bool.and_eq_true, decide_eq_true_eq] at h
      obtain ⟨⟨⟨rfl, h1⟩, h2⟩, h3⟩ := h
      refine ⟨a, e, fun wd => .inr ⟨⟨z0, .head _⟩, _, its, n, l, rfl, rfl, by rw [sizeLine_eq]; omega, vals_of (by simpa using h1) h3⟩⟩
    · cases h
  · cases h
theorem tupMg {K : PySem.W.Frag} {h : Heap} {mg : Str → Option Value} (KX : K.In h) (G : h.Ns mainGlobals mg) {x z0 : Str} {ws : List Str} (q : tupHd K x (z0 :: ws) = true) : ∃ a, mg x = some (.ref a) ∧ ∀ wd, SqI K wd a ((z0 :: ws).map V.str) := by
  obtain ⟨a, e, r⟩ := tupHd_ok q
  exact ⟨a, PySem.W.mg_of KX G e, r⟩
theorem exAt {l : List Bool} (h : l.all id = true) (i : Nat) {b : Bool} (e : l[i]? = some b) : b = true :=
  List.all_eq_true.mp h b (List.mem_of_getElem? e)
end PL

/-! FN: the defs of all linked texts, printed by tr.py. -/
namespace Fn
open PySem
/-- number 7 -/
noncomputable def f_law_cell : PL.Dd := ⟨"_law_cell", ["script", "k"], ["script", "k"],
  (.seq (.ite (.cmp .Lt (.var 1) (.bi .len (.cons (.var 0) .nil))) (.seq (.ret (.sub (.var 0) (.var 1)))
    .skip) .skip)
    (.seq (.ret (.cst (.int 0)))
    .skip)), "", "_law_cell"⟩
/-- number 8 -/
noncomputable def f_law_mix : PL.Dd := ⟨"_law_mix", ["cell", "prime", "many"], ["cell", "prime", "many", "blend"],
  (.seq (.asg (.nm 3) (.bin .Mod (.bin .Mult (.var 0) (.cst (.int 48271))) (.var 1)))
    (.seq (.ret (.bin .Mod (.bin .Mod (.bin .Mult (.var 3) (.bin .Add (.var 3) (.cst (.int 7)))) (.var 1)) (.var 2)))
    .skip)), "", "_law_mix"⟩
/-- number 9 -/
noncomputable def f_law_atom : PL.Dd := ⟨"_law_atom", ["cell"], ["cell"],
  (.seq (.ret (.tup (.cons (.cst (.str [119, 111, 114, 100])) (.cons (.sub (.tup (.cons (.cst (.str [97])) (.cons (.cst (.str [98])) (.cons (.cst (.str [120, 49])) (.cons (.cst (.str [108, 111, 110, 103])) (.cons (.cst (.str [55])) (.cons (.cst (.str [97, 98, 99, 100, 101, 102])) .nil))))))) (.call 8 (.cons (.var 0) (.cons (.cst (.int 9973)) (.cons (.cst (.int 6)) .nil))))) .nil))))
    .skip), "", "_law_atom"⟩
/-- number 10 -/
noncomputable def f_law_base : PL.Dd := ⟨"_law_base", ["cell", "left"], ["cell", "left", "way", "rows", "wide", "k", "seeds", "j", "seed"],
  (.seq (.asg (.nm 2) (.call 8 (.cons (.var 0) (.cons (.cst (.int 9967)) (.cons (.cst (.int 4)) .nil)))))
    (.seq (.ite (.bop .Or (.cons (.cmp .Eq (.var 1) (.cst (.int 1))) (.cons (.cmp .Lt (.var 2) (.cst (.int 2))) .nil))) (.seq (.ret (.call 9 (.cons (.var 0) .nil)))
    .skip) .skip)
    (.seq (.ite (.cmp .Eq (.var 2) (.cst (.int 2))) (.seq (.ret (.tup (.cons (.cst (.str [104, 101, 108, 100])) (.cons (.call 12 (.cons (.bin .Add (.bin .Mult (.var 0) (.cst (.int 3))) (.cst (.int 1))) (.cons (.bin .Sub (.var 1) (.cst (.int 1))) .nil))) .nil))))
    .skip) .skip)
    (.seq (.asg (.nm 3) (.tup .nil))
    (.seq (.asg (.nm 4) (.bin .Add (.cst (.int 1)) (.call 8 (.cons (.var 0) (.cons (.cst (.int 9949)) (.cons (.cst (.int 3)) .nil))))))
    (.seq (.fr (.nm 5) (.rng (.cons (.bin .Add (.cst (.int 1)) (.call 8 (.cons (.var 0) (.cons (.cst (.int 9941)) (.cons (.cst (.int 3)) .nil))))) .nil)) (.seq (.asg (.nm 6) (.comp [7] (.nm 7) (.rng (.cons (.var 4) .nil)) .yes (.bin .Add (.bin .Add (.bin .Add (.bin .Mult (.var 0) (.cst (.int 3))) (.bin .Mult (.cst (.int 7)) (.var 5))) (.bin .Mult (.cst (.int 5)) (.var 7))) (.cst (.int 2)))))
    (.seq (.asg (.nm 3) (.bin .Add (.var 3) (.tup (.cons (.bi .tuple (.cons (.comp [8] (.nm 8) (.seq (.var 6)) .yes (.call 12 (.cons (.var 8) (.cons (.bi .min2 (.cons (.bin .Sub (.var 1) (.cst (.int 1))) (.cons (.cst (.int 2)) .nil))) .nil)))) .nil)) .nil))))
    .skip)))
    (.seq (.ret (.tup (.cons (.cst (.str [116, 97, 98, 108, 101])) (.cons (.var 3) .nil))))
    .skip))))))), "", "_law_base"⟩
/-- number 11 -/
noncomputable def f_law_item : PL.Dd := ⟨"_law_item", ["cell", "left"], ["cell", "left", "way", "both", "some"],
  (.seq (.asg (.nm 2) (.call 8 (.cons (.var 0) (.cons (.cst (.int 9931)) (.cons (.cst (.int 8)) .nil)))))
    (.seq (.ite (.bop .Or (.cons (.cmp .Eq (.var 1) (.cst (.int 1))) (.cons (.cmp .Lt (.var 2) (.cst (.int 2))) .nil))) (.seq (.ret (.call 10 (.cons (.var 0) (.cons (.var 1) .nil))))
    .skip) .skip)
    (.seq (.ite (.cmp .Eq (.var 2) (.cst (.int 2))) (.seq (.ret (.tup (.cons (.cst (.str [111, 118, 101, 114])) (.cons (.call 12 (.cons (.bin .Add (.bin .Mult (.var 0) (.cst (.int 3))) (.cst (.int 1))) (.cons (.bin .Sub (.var 1) (.cst (.int 1))) .nil))) (.cons (.call 12 (.cons (.bin .Add (.bin .Mult (.var 0) (.cst (.int 3))) (.cst (.int 2))) (.cons (.bin .Sub (.var 1) (.cst (.int 1))) .nil))) .nil)))))
    .skip) .skip)
    (.seq (.ite (.cmp .Eq (.var 2) (.cst (.int 3))) (.seq (.ret (.tup (.cons (.cst (.str [114, 111, 111, 116])) (.cons (.call 12 (.cons (.bin .Add (.bin .Mult (.var 0) (.cst (.int 3))) (.cst (.int 1))) (.cons (.bin .Sub (.var 1) (.cst (.int 1))) .nil))) .nil))))
    .skip) .skip)
    (.seq (.ite (.cmp .Lt (.var 2) (.cst (.int 6))) (.seq (.asg (.nm 3) (.lst (.cons (.call 12 (.cons (.bin .Add (.bin .Mult (.var 0) (.cst (.int 3))) (.cst (.int 4))) (.cons (.bin .Sub (.var 1) (.cst (.int 1))) .nil))) (.cons (.call 12 (.cons (.bin .Add (.bin .Mult (.var 0) (.cst (.int 3))) (.cst (.int 5))) (.cons (.bin .Sub (.var 1) (.cst (.int 1))) .nil))) .nil))))
    (.seq (.asg (.nm 4) (.call 8 (.cons (.var 0) (.cons (.cst (.int 9929)) (.cons (.cst (.int 3)) .nil)))))
    (.seq (.ret (.tup (.cons (.cst (.str [115, 99, 114, 105, 112, 116])) (.cons (.call 10 (.cons (.bin .Add (.var 0) (.cst (.int 1))) (.cons (.bin .Sub (.var 1) (.cst (.int 1))) .nil))) (.cons (.ite (.cmp .Eq (.var 4) (.cst (.int 0))) (.cst .non) (.sub (.var 3) (.cst (.int 0)))) (.cons (.ite (.cmp .Eq (.var 4) (.cst (.int 1))) (.cst .non) (.sub (.var 3) (.cst (.int 1)))) .nil))))))
    .skip))) .skip)
    (.seq (.ret (.call 10 (.cons (.bin .Add (.var 0) (.cst (.int 1))) (.cons (.var 1) .nil))))
    .skip)))))), "", "_law_item"⟩
/-- number 12 -/
noncomputable def f_law_draw : PL.Dd := ⟨"_law_draw", ["cell", "left"], ["cell", "left", "rest", "k", "sign"],
  (.seq (.ite (.bop .And (.cons (.cmp .Gt (.var 1) (.cst (.int 1))) (.cons (.cmp .Eq (.call 8 (.cons (.var 0) (.cons (.cst (.int 9923)) (.cons (.cst (.int 3)) .nil)))) (.cst (.int 0))) .nil))) (.seq (.asg (.nm 2) (.tup .nil))
    (.seq (.fr (.nm 3) (.rng (.cons (.bin .Add (.cst (.int 1)) (.call 8 (.cons (.var 0) (.cons (.cst (.int 9907)) (.cons (.cst (.int 3)) .nil))))) .nil)) (.seq (.asg (.nm 4) (.sub (.cst (.str [43, 45, 42, 61, 60])) (.call 8 (.cons (.bin .Add (.var 0) (.var 3)) (.cons (.cst (.int 9901)) (.cons (.cst (.int 5)) .nil))))))
    (.seq (.asg (.nm 2) (.bin .Add (.var 2) (.tup (.cons (.tup (.cons (.var 4) (.cons (.call 11 (.cons (.bin .Add (.bin .Add (.bin .Mult (.var 0) (.cst (.int 2))) (.bin .Mult (.cst (.int 11)) (.var 3))) (.cst (.int 3))) (.cons (.bin .Sub (.var 1) (.cst (.int 1))) .nil))) .nil))) .nil))))
    .skip)))
    (.seq (.ret (.tup (.cons (.cst (.str [99, 104, 97, 105, 110])) (.cons (.call 11 (.cons (.bin .Add (.bin .Mult (.var 0) (.cst (.int 2))) (.cst (.int 1))) (.cons (.bin .Sub (.var 1) (.cst (.int 1))) .nil))) (.cons (.var 2) .nil)))))
    .skip))) .skip)
    (.seq (.ret (.call 11 (.cons (.var 0) (.cons (.var 1) .nil))))
    .skip)), "", "_law_draw"⟩
/-- number 13 -/
noncomputable def f_law_parts : PL.Dd := ⟨"_law_parts", ["some"], ["some", "gathered", "row", "part", "pair"],
  (.seq (.ite (.cmp .Eq (.sub (.var 0) (.cst (.int 0))) (.cst (.str [119, 111, 114, 100]))) (.seq (.ret (.lst .nil))
    .skip) .skip)
    (.seq (.ite (.cmp .Eq (.sub (.var 0) (.cst (.int 0))) (.cst (.str [99, 104, 97, 105, 110]))) (.seq (.ret (.bin .Add (.lst (.cons (.sub (.var 0) (.cst (.int 1))) .nil)) (.comp [4] (.nm 4) (.seq (.sub (.var 0) (.cst (.int 2)))) .yes (.sub (.var 4) (.cst (.int 1))))))
    .skip) .skip)
    (.seq (.ite (.cmp .Eq (.sub (.var 0) (.cst (.int 0))) (.cst (.str [116, 97, 98, 108, 101]))) (.seq (.asg (.nm 1) (.nlst .nil))
    (.seq (.fr (.nm 2) (.seq (.sub (.var 0) (.cst (.int 1)))) (.seq (.exp (.mth .extend (.var 1) (.cons (.bi .list (.cons (.var 2) .nil)) .nil)))
    .skip))
    (.seq (.ret (.fz (.var 1)))
    .skip))) .skip)
    (.seq (.ret (.comp [3] (.nm 3) (.seq (.slc (.var 0) (.some (.cst (.int 1))) .no)) (.cmp .IsNot (.var 3) (.cst .non)) (.var 3)))
    .skip)))), "", "_law_parts"⟩
/-- number 20 -/
noncomputable def f_kind : PL.Dd := ⟨"kind", ["some"], ["some"],
  (.seq (.ret (.sub (.var 0) (.cst (.int 0))))
    .skip), "", "kind"⟩
/-- number 21 -/
noncomputable def f_parts : PL.Dd := ⟨"parts", ["some"], ["some", "word", "found", "row", "part", "sign"],
  (.seq (.asg (.nm 1) (.call 20 (.cons (.var 0) .nil)))
    (.seq (.ite (.cmp .Eq (.var 1) (.cst (.str [119, 111, 114, 100]))) (.seq (.ret (.tup .nil))
    .skip) .skip)
    (.seq (.ite (.cmp .Eq (.var 1) (.cst (.str [99, 104, 97, 105, 110]))) (.seq (.ret (.bin .Add (.tup (.cons (.sub (.var 0) (.cst (.int 1))) .nil)) (.bi .tuple (.cons (.comp [5, 4] (.tp (.cons (.nm 5) (.cons (.nm 4) .nil))) (.seq (.sub (.var 0) (.cst (.int 2)))) .yes (.var 4)) .nil))))
    .skip) .skip)
    (.seq (.ite (.cmp .Eq (.var 1) (.cst (.str [116, 97, 98, 108, 101]))) (.seq (.asg (.nm 2) (.tup .nil))
    (.seq (.fr (.nm 3) (.seq (.sub (.var 0) (.cst (.int 1)))) (.seq (.asg (.nm 2) (.bin .Add (.var 2) (.var 3)))
    .skip))
    (.seq (.ret (.var 2))
    .skip))) .skip)
    (.seq (.ret (.bi .tuple (.cons (.comp [4] (.nm 4) (.seq (.slc (.var 0) (.some (.cst (.int 1))) .no)) (.cmp .IsNot (.var 4) (.cst .non)) (.var 4)) .nil)))
    .skip))))), "", "parts"⟩
/-- number 22 -/
noncomputable def f_with_parts : PL.Dd := ⟨"with_parts", ["some", "new"], ["some", "new", "word", "left", "many", "part", "k", "pair"],
  (.seq (.asg (.nm 2) (.call 20 (.cons (.var 0) .nil)))
    (.seq (.ite (.cmp .Eq (.var 2) (.cst (.str [119, 111, 114, 100]))) (.seq (.ret (.var 0))
    .skip) .skip)
    (.seq (.ite (.cmp .Eq (.var 2) (.cst (.str [99, 104, 97, 105, 110]))) (.seq (.ret (.tup (.cons (.var 2) (.cons (.sub (.var 1) (.cst (.int 0))) (.cons (.bi .tuple (.cons (.comp [7, 5] (.tp (.cons (.nm 7) (.cons (.nm 5) .nil))) (.zip (.sub (.var 0) (.cst (.int 2))) (.slc (.var 1) (.some (.cst (.int 1))) .no)) .yes (.tup (.cons (.sub (.var 7) (.cst (.int 0))) (.cons (.var 5) .nil)))) .nil)) .nil)))))
    .skip) .skip)
    (.seq (.ite (.cmp .Eq (.var 2) (.cst (.str [116, 97, 98, 108, 101]))) (.seq (.asg (.nm 4) (.bi .len (.cons (.sub (.sub (.var 0) (.cst (.int 1))) (.cst (.int 0))) .nil)))
    (.seq (.ret (.tup (.cons (.var 2) (.cons (.bi .tuple (.cons (.comp [6] (.nm 6) (.rng (.cons (.cst (.int 0)) (.cons (.bi .len (.cons (.var 1) .nil)) (.cons (.var 4) .nil)))) .yes (.bi .tuple (.cons (.slc (.var 1) (.some (.var 6)) (.some (.bin .Add (.var 6) (.var 4)))) .nil))) .nil)) .nil))))
    .skip)) .skip)
    (.seq (.asg (.nm 3) (.nof (.var 1)))
    (.seq (.ret (.bin .Add (.tup (.cons (.var 2) .nil)) (.bi .tuple (.cons (.comp [5] (.nm 5) (.seq (.slc (.var 0) (.some (.cst (.int 1))) .no)) .yes (.ite (.cmp .Is (.var 5) (.cst .non)) (.cst .non) (.mth .pop (.var 3) (.cons (.cst (.int 0)) .nil)))) .nil))))
    .skip)))))), "", "with_parts"⟩
/-- number 23 -/
noncomputable def f_size : PL.Dd := ⟨"size", ["some"], ["some", "part"],
  (.seq (.ret (.bin .Add (.cst (.int 1)) (.bi .sum (.cons (.comp [1] (.nm 1) (.seq (.call 21 (.cons (.var 0) .nil))) .yes (.call 23 (.cons (.var 1) .nil))) .nil))))
    .skip), "", "size"⟩
/-- number 25 -/
noncomputable def f_ways : PL.Dd := ⟨"ways", ["some"], ["some", "found", "k", "part", "way"],
  (.seq (.asg (.nm 1) (.nlst (.cons (.tup .nil) .nil)))
    (.seq (.fr (.tp (.cons (.nm 2) (.cons (.nm 3) .nil))) (.enum (.call 21 (.cons (.var 0) .nil))) (.seq (.exp (.mth .extend (.var 1) (.cons (.comp [4] (.nm 4) (.seq (.call 25 (.cons (.var 3) .nil))) .yes (.bin .Add (.tup (.cons (.var 2) .nil)) (.var 4))) .nil)))
    .skip))
    (.seq (.ret (.bi .tuple (.cons (.var 1) .nil)))
    .skip))), "", "ways"⟩
/-- number 26 -/
noncomputable def f_part_at : PL.Dd := ⟨"part_at", ["some", "way"], ["some", "way", "k"],
  (.seq (.fr (.nm 2) (.seq (.var 1)) (.seq (.ite (.nt (.cmp2 .LtE .Lt (.cst (.int 0)) (.var 2) (.bi .len (.cons (.call 21 (.cons (.var 0) .nil)) .nil)))) (.seq (.rse 1)
    .skip) .skip)
    (.seq (.asg (.nm 0) (.sub (.call 21 (.cons (.var 0) .nil)) (.var 2)))
    .skip)))
    (.seq (.ret (.var 0))
    .skip)), "", "part_at"⟩
/-- number 27 -/
noncomputable def f_may_be : PL.Dd := ⟨"may_be", ["some", "k", "new"], ["some", "k", "new"],
  (.seq (.ite (.cmp .Eq (.call 20 (.cons (.var 0) .nil)) (.cst (.str [99, 104, 97, 105, 110]))) (.seq (.ret (.cmp .NotEq (.call 20 (.cons (.var 2) .nil)) (.cst (.str [99, 104, 97, 105, 110]))))
    .skip) .skip)
    (.seq (.ret (.bop .Or (.cons (.cmp .NotEq (.call 20 (.cons (.var 0) .nil)) (.cst (.str [115, 99, 114, 105, 112, 116]))) (.cons (.cmp .Gt (.var 1) (.cst (.int 0))) (.cons (.cmp .In (.call 20 (.cons (.var 2) .nil)) (.glb "BASES" (.tup [(.str [119, 111, 114, 100]), (.str [104, 101, 108, 100]), (.str [116, 97, 98, 108, 101])]))) .nil)))))
    .skip)), "", "may_be"⟩
/-- number 28 -/
noncomputable def f_put_at : PL.Dd := ⟨"put_at", ["some", "way", "new"], ["some", "way", "new", "k", "part"],
  (.seq (.exp (.call 26 (.cons (.var 0) (.cons (.var 1) .nil))))
    (.seq (.ite (.cmp .Eq (.var 1) (.tup .nil)) (.seq (.ret (.var 2))
    .skip) .skip)
    (.seq (.asg (.nm 3) (.sub (.var 1) (.cst (.int 0))))
    (.seq (.asg (.nm 4) (.call 28 (.cons (.sub (.call 21 (.cons (.var 0) .nil)) (.var 3)) (.cons (.slc (.var 1) (.some (.cst (.int 1))) .no) (.cons (.var 2) .nil)))))
    (.seq (.ite (.nt (.val (.call 27 (.cons (.var 0) (.cons (.var 3) (.cons (.var 4) .nil)))))) (.seq (.rse 2)
    .skip) .skip)
    (.seq (.ret (.call 22 (.cons (.var 0) (.cons (.bin .Add (.bin .Add (.slc (.call 21 (.cons (.var 0) .nil)) .no (.some (.var 3))) (.tup (.cons (.var 4) .nil))) (.slc (.call 21 (.cons (.var 0) .nil)) (.some (.bin .Add (.var 3) (.cst (.int 1)))) .no)) .nil))))
    .skip)))))), "", "put_at"⟩
/-- number 35 -/
noncomputable def f_rows_of : PL.Dd := ⟨"rows_of", ["one"], ["one"],
  (.seq (.ite (.cmp .Is (.var 0) (.cst .non)) (.seq (.ret (.cst (.int 0)))
    .skip) .skip)
    (.seq (.ret (.bin .Add (.bin .Add (.sub (.var 0) (.cst (.int 1))) (.sub (.var 0) (.cst (.int 2)))) (.cst (.int 1))))
    .skip)), "", "rows_of"⟩
/-- number 36 -/
noncomputable def f_box_or_none : PL.Dd := ⟨"box_or_none", ["some"], ["some"],
  (.seq (.ite (.cmp .Is (.var 0) (.cst .non)) (.seq (.ret (.cst .non))
    .skip) .skip)
    (.seq (.ret (.call 40 (.cons (.var 0) .nil)))
    .skip)), "", "box_or_none"⟩
/-- number 37 -/
noncomputable def f_columns : PL.Dd := ⟨"columns", ["rows"], ["rows", "k", "row"],
  (.seq (.ret (.comp [1] (.nm 1) (.rng (.cons (.bi .len (.cons (.sub (.var 0) (.cst (.int 0))) .nil)) .nil)) .yes (.bi .max1 (.cons (.comp [2] (.nm 2) (.seq (.var 0)) .yes (.sub (.call 40 (.cons (.sub (.var 2) (.var 1)) .nil)) (.cst (.int 0)))) .nil))))
    .skip), "", "columns"⟩
/-- number 38 -/
noncomputable def f_heights : PL.Dd := ⟨"heights", ["rows"], ["rows", "row", "part"],
  (.seq (.ret (.comp [1] (.nm 1) (.seq (.var 0)) .yes (.tup (.cons (.bi .max1 (.cons (.comp [2] (.nm 2) (.seq (.var 1)) .yes (.sub (.call 40 (.cons (.var 2) .nil)) (.cst (.int 1)))) .nil)) (.cons (.bi .max1 (.cons (.comp [2] (.nm 2) (.seq (.var 1)) .yes (.sub (.call 40 (.cons (.var 2) .nil)) (.cst (.int 2)))) .nil)) .nil)))))
    .skip), "", "heights"⟩
/-- number 39 -/
noncomputable def f_table_box : PL.Dd := ⟨"table_box", ["rows"], ["rows", "wide", "high", "up", "down"],
  (.seq (.asg (.nm 1) (.call 37 (.cons (.var 0) .nil)))
    (.seq (.asg (.nm 2) (.bin .Sub (.bin .Add (.bi .sum (.cons (.comp [3, 4] (.tp (.cons (.nm 3) (.cons (.nm 4) .nil))) (.seq (.call 38 (.cons (.var 0) .nil))) .yes (.bin .Add (.bin .Add (.var 3) (.var 4)) (.cst (.int 1)))) .nil)) (.bi .len (.cons (.var 0) .nil))) (.cst (.int 1))))
    (.seq (.ret (.tup (.cons (.bin .Add (.bin .Add (.bi .sum (.cons (.var 1) .nil)) (.bin .Mult (.glb "BETWEEN" (.int 2)) (.bin .Sub (.bi .len (.cons (.var 1) .nil)) (.cst (.int 1))))) (.cst (.int 2))) (.cons (.bin .FloorDiv (.var 2) (.cst (.int 2))) (.cons (.bin .Sub (.bin .Sub (.var 2) (.cst (.int 1))) (.bin .FloorDiv (.var 2) (.cst (.int 2)))) .nil)))))
    .skip))), "", "table_box"⟩
/-- number 40 -/
noncomputable def f_box : PL.Dd := ⟨"box", ["some"], ["some", "word", "boxes", "wide", "up", "down", "base", "part", "one"],
  (.seq (.asg (.nm 1) (.call 20 (.cons (.var 0) .nil)))
    (.seq (.ite (.cmp .Eq (.var 1) (.cst (.str [119, 111, 114, 100]))) (.seq (.ret (.tup (.cons (.bi .len (.cons (.sub (.var 0) (.cst (.int 1))) .nil)) (.cons (.cst (.int 0)) (.cons (.cst (.int 0)) .nil)))))
    .skip) .skip)
    (.seq (.ite (.cmp .Eq (.var 1) (.cst (.str [116, 97, 98, 108, 101]))) (.seq (.ret (.call 39 (.cons (.sub (.var 0) (.cst (.int 1))) .nil)))
    .skip) .skip)
    (.seq (.ite (.cmp .Eq (.var 1) (.cst (.str [115, 99, 114, 105, 112, 116]))) (.seq (.asg (.tp (.cons (.nm 6) (.cons (.nm 4) (.cons (.nm 5) .nil)))) (.comp [7] (.nm 7) (.seq (.slc (.var 0) (.some (.cst (.int 1))) .no)) .yes (.call 36 (.cons (.var 7) .nil))))
    (.seq (.asg (.nm 3) (.bi .max1 (.cons (.comp [8] (.nm 8) (.seq (.tup (.cons (.var 4) (.cons (.var 5) .nil)))) (.cmp .IsNot (.var 8) (.cst .non)) (.sub (.var 8) (.cst (.int 0)))) .nil)))
    (.seq (.ret (.tup (.cons (.bin .Add (.sub (.var 6) (.cst (.int 0))) (.var 3)) (.cons (.bin .Add (.sub (.var 6) (.cst (.int 1))) (.call 35 (.cons (.var 4) .nil))) (.cons (.bin .Add (.sub (.var 6) (.cst (.int 2))) (.call 35 (.cons (.var 5) .nil))) .nil)))))
    .skip))) .skip)
    (.seq (.asg (.nm 2) (.comp [7] (.nm 7) (.seq (.call 21 (.cons (.var 0) .nil))) .yes (.call 40 (.cons (.var 7) .nil))))
    (.seq (.ite (.cmp .Eq (.var 1) (.cst (.str [99, 104, 97, 105, 110]))) (.seq (.asg (.nm 3) (.bin .Add (.bi .sum (.cons (.comp [8] (.nm 8) (.seq (.var 2)) .yes (.sub (.var 8) (.cst (.int 0)))) .nil)) (.bin .Mult (.glb "GAP" (.int 3)) (.bin .Sub (.bi .len (.cons (.var 2) .nil)) (.cst (.int 1))))))
    (.seq (.ret (.tup (.cons (.var 3) (.cons (.bi .max1 (.cons (.comp [8] (.nm 8) (.seq (.var 2)) .yes (.sub (.var 8) (.cst (.int 1)))) .nil)) (.cons (.bi .max1 (.cons (.comp [8] (.nm 8) (.seq (.var 2)) .yes (.sub (.var 8) (.cst (.int 2)))) .nil)) .nil)))))
    .skip)) .skip)
    (.seq (.ite (.cmp .Eq (.var 1) (.cst (.str [111, 118, 101, 114]))) (.seq (.ret (.tup (.cons (.bin .Add (.bi .max2 (.cons (.sub (.sub (.var 2) (.cst (.int 0))) (.cst (.int 0))) (.cons (.sub (.sub (.var 2) (.cst (.int 1))) (.cst (.int 0))) .nil))) (.cst (.int 2))) (.cons (.call 35 (.cons (.sub (.var 2) (.cst (.int 0))) .nil)) (.cons (.call 35 (.cons (.sub (.var 2) (.cst (.int 1))) .nil)) .nil)))))
    .skip) .skip)
    (.seq (.asg (.tp (.cons (.nm 3) (.cons (.nm 4) (.cons (.nm 5) .nil)))) (.sub (.var 2) (.cst (.int 0))))
    (.seq (.ite (.cmp .Eq (.var 1) (.cst (.str [114, 111, 111, 116]))) (.seq (.ret (.tup (.cons (.bin .Add (.var 3) (.cst (.int 1))) (.cons (.bin .Add (.var 4) (.cst (.int 1))) (.cons (.var 5) .nil)))))
    .skip) .skip)
    (.seq (.ret (.tup (.cons (.bin .Add (.var 3) (.cst (.int 2))) (.cons (.var 4) (.cons (.var 5) .nil)))))
    .skip)))))))))), "", "box"⟩
/-- number 41 -/
noncomputable def f_law_rows : PL.Dd := ⟨"_law_rows", ["one"], ["one"],
  (.seq (.ret (.ite (.cmp .Is (.var 0) (.cst .non)) (.cst (.int 0)) (.bin .Add (.bin .Add (.sub (.var 0) (.cst (.int 1))) (.sub (.var 0) (.cst (.int 2)))) (.cst (.int 1)))))
    .skip), "", "_law_rows"⟩
/-- number 42 -/
noncomputable def f_law_box : PL.Dd := ⟨"_law_box", ["some"], ["some", "word", "boxes", "more", "base", "wide", "k", "row", "up", "down", "high", "part", "one"],
  (.seq (.asg (.nm 1) (.sub (.var 0) (.cst (.int 0))))
    (.seq (.ite (.cmp .Eq (.var 1) (.cst (.str [119, 111, 114, 100]))) (.seq (.ret (.tup (.cons (.bi .len (.cons (.sub (.var 0) (.cst (.int 1))) .nil)) (.cons (.cst (.int 0)) (.cons (.cst (.int 0)) .nil)))))
    .skip) .skip)
    (.seq (.ite (.cmp .Eq (.var 1) (.cst (.str [115, 99, 114, 105, 112, 116]))) (.seq (.asg (.nm 4) (.call 42 (.cons (.sub (.var 0) (.cst (.int 1))) .nil)))
    (.seq (.asg (.tp (.cons (.nm 8) (.cons (.nm 9) .nil))) (.comp [11] (.nm 11) (.seq (.slc (.var 0) (.some (.cst (.int 2))) .no)) .yes (.ite (.cmp .Is (.var 11) (.cst .non)) (.cst .non) (.call 42 (.cons (.var 11) .nil)))))
    (.seq (.asg (.nm 5) (.bi .max1 (.cons (.comp [12] (.nm 12) (.seq (.tup (.cons (.var 8) (.cons (.var 9) .nil)))) (.cmp .IsNot (.var 12) (.cst .non)) (.sub (.var 12) (.cst (.int 0)))) .nil)))
    (.seq (.ret (.tup (.cons (.bin .Add (.sub (.var 4) (.cst (.int 0))) (.var 5)) (.cons (.bin .Add (.sub (.var 4) (.cst (.int 1))) (.call 41 (.cons (.var 8) .nil))) (.cons (.bin .Add (.sub (.var 4) (.cst (.int 2))) (.call 41 (.cons (.var 9) .nil))) .nil)))))
    .skip)))) .skip)
    (.seq (.ite (.cmp .Eq (.var 1) (.cst (.str [116, 97, 98, 108, 101]))) (.seq (.par [5, 10] (.cons (.cst (.int 0)) (.cons (.bin .Sub (.bi .len (.cons (.sub (.var 0) (.cst (.int 1))) .nil)) (.cst (.int 1))) .nil)))
    (.seq (.fr (.nm 6) (.rng (.cons (.bi .len (.cons (.sub (.sub (.var 0) (.cst (.int 1))) (.cst (.int 0))) .nil)) .nil)) (.seq (.asg (.nm 5) (.bin .Add (.bin .Add (.var 5) (.bi .max1 (.cons (.comp [7] (.nm 7) (.seq (.sub (.var 0) (.cst (.int 1)))) .yes (.sub (.call 42 (.cons (.sub (.var 7) (.var 6)) .nil)) (.cst (.int 0)))) .nil))) (.cst (.int 2))))
    .skip))
    (.seq (.fr (.nm 7) (.seq (.sub (.var 0) (.cst (.int 1)))) (.seq (.asg (.nm 2) (.comp [11] (.nm 11) (.seq (.var 7)) .yes (.call 42 (.cons (.var 11) .nil))))
    (.seq (.asg (.nm 10) (.bin .Add (.bin .Add (.bin .Add (.var 10) (.bi .max1 (.cons (.comp [12] (.nm 12) (.seq (.var 2)) .yes (.sub (.var 12) (.cst (.int 1)))) .nil))) (.bi .max1 (.cons (.comp [12] (.nm 12) (.seq (.var 2)) .yes (.sub (.var 12) (.cst (.int 2)))) .nil))) (.cst (.int 1))))
    .skip)))
    (.seq (.ret (.tup (.cons (.var 5) (.cons (.bin .FloorDiv (.var 10) (.cst (.int 2))) (.cons (.bin .Sub (.bin .Sub (.var 10) (.bin .FloorDiv (.var 10) (.cst (.int 2)))) (.cst (.int 1))) .nil)))))
    .skip)))) .skip)
    (.seq (.asg (.nm 2) (.comp [11] (.nm 11) (.seq (.call 13 (.cons (.var 0) .nil))) .yes (.call 42 (.cons (.var 11) .nil))))
    (.seq (.ite (.cmp .Eq (.var 1) (.cst (.str [99, 104, 97, 105, 110]))) (.seq (.asg (.nm 5) (.bin .Sub (.bi .sum (.cons (.comp [12] (.nm 12) (.seq (.var 2)) .yes (.bin .Add (.sub (.var 12) (.cst (.int 0))) (.cst (.int 3)))) .nil)) (.cst (.int 3))))
    (.seq (.ret (.tup (.cons (.var 5) (.cons (.bi .max1 (.cons (.comp [12] (.nm 12) (.seq (.var 2)) .yes (.sub (.var 12) (.cst (.int 1)))) .nil)) (.cons (.bi .max1 (.cons (.comp [12] (.nm 12) (.seq (.var 2)) .yes (.sub (.var 12) (.cst (.int 2)))) .nil)) .nil)))))
    .skip)) .skip)
    (.seq (.ite (.cmp .Eq (.var 1) (.cst (.str [111, 118, 101, 114]))) (.seq (.ret (.tup (.cons (.bin .Add (.bi .max2 (.cons (.sub (.sub (.var 2) (.cst (.int 0))) (.cst (.int 0))) (.cons (.sub (.sub (.var 2) (.cst (.int 1))) (.cst (.int 0))) .nil))) (.cst (.int 2))) (.cons (.call 41 (.cons (.sub (.var 2) (.cst (.int 0))) .nil)) (.cons (.call 41 (.cons (.sub (.var 2) (.cst (.int 1))) .nil)) .nil)))))
    .skip) .skip)
    (.seq (.asg (.nm 3) (.ite (.cmp .Eq (.var 1) (.cst (.str [114, 111, 111, 116]))) (.cst (.int 1)) (.cst (.int 2))))
    (.seq (.ret (.tup (.cons (.bin .Add (.sub (.sub (.var 2) (.cst (.int 0))) (.cst (.int 0))) (.var 3)) (.cons (.bin .Sub (.bin .Add (.sub (.sub (.var 2) (.cst (.int 0))) (.cst (.int 1))) (.cst (.int 2))) (.var 3)) (.cons (.sub (.sub (.var 2) (.cst (.int 0))) (.cst (.int 2))) .nil)))))
    .skip))))))))), "", "_law_box"⟩
/-- number 137 -/
noncomputable def f_fitted : PL.Dd := ⟨"fitted", ["some", "k", "new"], ["some", "k", "new"],
  (.seq (.ite (.val (.call 27 (.cons (.var 0) (.cons (.var 1) (.cons (.var 2) .nil))))) (.seq (.ret (.var 2))
    .skip) .skip)
    (.seq (.ret (.tup (.cons (.cst (.str [104, 101, 108, 100])) (.cons (.var 2) .nil))))
    .skip)), "", "fitted"⟩
/-- number 138 -/
noncomputable def f_put_in : PL.Dd := ⟨"put_in", ["some", "name", "new"], ["some", "name", "new", "found", "k", "part"],
  (.seq (.ite (.cmp .Eq (.var 0) (.tup (.cons (.cst (.str [119, 111, 114, 100])) (.cons (.var 1) .nil)))) (.seq (.ret (.var 2))
    .skip) .skip)
    (.seq (.asg (.nm 3) (.comp [4, 5] (.tp (.cons (.nm 4) (.cons (.nm 5) .nil))) (.enum (.call 21 (.cons (.var 0) .nil))) .yes (.call 137 (.cons (.var 0) (.cons (.var 4) (.cons (.call 138 (.cons (.var 5) (.cons (.var 1) (.cons (.var 2) .nil)))) .nil))))))
    (.seq (.ret (.call 22 (.cons (.var 0) (.cons (.bi .tuple (.cons (.var 3) .nil)) .nil))))
    .skip))), "", "put_in"⟩
/-- number 139 -/
noncomputable def f_opened : PL.Dd := ⟨"opened", ["some", "k", "part"], ["some", "k", "part"],
  (.seq (.wh (.bop .And (.cons (.cmp .Eq (.call 20 (.cons (.var 2) .nil)) (.cst (.str [104, 101, 108, 100]))) (.cons (.nt (.bop .And (.cons (.cmp .Eq (.call 20 (.cons (.var 0) .nil)) (.cst (.str [115, 99, 114, 105, 112, 116]))) (.cons (.cmp .Eq (.var 1) (.cst (.int 0))) .nil)))) .nil))) (.seq (.ite (.bop .And (.cons (.cmp .Eq (.call 20 (.cons (.sub (.var 2) (.cst (.int 1))) .nil)) (.cst (.str [99, 104, 97, 105, 110]))) (.cons (.cmp .Eq (.call 20 (.cons (.var 0) .nil)) (.cst (.str [99, 104, 97, 105, 110]))) .nil))) (.seq (.ret (.var 2))
    .skip) .skip)
    (.seq (.asg (.nm 2) (.sub (.var 2) (.cst (.int 1))))
    .skip)))
    (.seq (.ret (.var 2))
    .skip)), "", "opened"⟩
/-- number 140 -/
noncomputable def f_freed : PL.Dd := ⟨"freed", ["some"], ["some"],
  (.seq (.wh (.cmp .Eq (.call 20 (.cons (.var 0) .nil)) (.cst (.str [104, 101, 108, 100]))) (.seq (.asg (.nm 0) (.sub (.var 0) (.cst (.int 1))))
    .skip))
    (.seq (.ret (.call 141 (.cons (.var 0) .nil)))
    .skip)), "", "freed"⟩
/-- number 141 -/
noncomputable def f_freed_parts : PL.Dd := ⟨"freed_parts", ["some"], ["some", "found", "k", "part"],
  (.seq (.asg (.nm 1) (.comp [2, 3] (.tp (.cons (.nm 2) (.cons (.nm 3) .nil))) (.enum (.call 21 (.cons (.var 0) .nil))) .yes (.call 141 (.cons (.call 139 (.cons (.var 0) (.cons (.var 2) (.cons (.var 3) .nil)))) .nil))))
    (.seq (.ret (.call 22 (.cons (.var 0) (.cons (.bi .tuple (.cons (.var 1) .nil)) .nil))))
    .skip)), "", "freed_parts"⟩
/-- number 142 -/
noncomputable def f_words : PL.Dd := ⟨"words", ["some"], ["some", "found", "way"],
  (.seq (.asg (.nm 1) (.comp [2] (.nm 2) (.seq (.call 25 (.cons (.var 0) .nil))) (.cmp .Eq (.call 20 (.cons (.call 26 (.cons (.var 0) (.cons (.var 2) .nil))) .nil)) (.cst (.str [119, 111, 114, 100]))) (.sub (.call 26 (.cons (.var 0) (.cons (.var 2) .nil))) (.cst (.int 1)))))
    (.seq (.ret (.bi .tuple (.cons (.u1 .sss (.var 1)) .nil)))
    .skip)), "", "words"⟩
/-- number 143 -/
noncomputable def f_longest : PL.Dd := ⟨"longest", ["some"], ["some", "best", "way", "one"],
  (.seq (.asg (.nm 1) (.cst .non))
    (.seq (.fr (.nm 2) (.seq (.slc (.call 25 (.cons (.var 0) .nil)) (.some (.cst (.int 1))) .no)) (.seq (.asg (.nm 3) (.call 40 (.cons (.call 26 (.cons (.var 0) (.cons (.var 2) .nil))) .nil)))
    (.seq (.ite (.bop .Or (.cons (.cmp .Is (.var 1) (.cst .non)) (.cons (.cmp .Gt (.bin .Mult (.sub (.var 3) (.cst (.int 0))) (.call 35 (.cons (.var 3) .nil))) (.sub (.var 1) (.cst (.int 0)))) .nil))) (.seq (.asg (.nm 1) (.tup (.cons (.bin .Mult (.sub (.var 3) (.cst (.int 0))) (.call 35 (.cons (.var 3) .nil))) (.cons (.var 2) .nil))))
    .skip) .skip)
    .skip)))
    (.seq (.ite (.cmp .Is (.var 1) (.cst .non)) (.seq (.ret (.cst .non))
    .skip) .skip)
    (.seq (.ret (.sub (.var 1) (.cst (.int 1))))
    .skip)))), "", "longest"⟩
/-- number 194 -/
noncomputable def f_law_fresh : PL.Dd := ⟨"_law_fresh", ["cell"], ["cell", "some", "k", "name"],
  (.seq (.asg (.nm 1) (.call 12 (.cons (.var 0) (.cons (.cst (.int 2)) .nil))))
    (.seq (.fr (.tp (.cons (.nm 2) (.cons (.nm 3) .nil))) (.enum (.call 142 (.cons (.var 1) .nil))) (.seq (.asg (.nm 1) (.call 138 (.cons (.var 1) (.cons (.var 3) (.cons (.tup (.cons (.cst (.str [119, 111, 114, 100])) (.cons (.bin .Add (.cst (.str [110, 101, 119])) (.u1 .sti (.var 2))) .nil))) .nil)))))
    .skip))
    (.seq (.ret (.var 1))
    .skip))), "", "_law_fresh"⟩
/-- number 195 -/
noncomputable def f_law_many : PL.Dd := ⟨"_law_many", ["some", "name"], ["some", "name", "way"],
  (.seq (.ret (.bi .len (.cons (.comp [2] (.nm 2) (.seq (.call 25 (.cons (.var 0) .nil))) (.cmp .Eq (.call 26 (.cons (.var 0) (.cons (.var 2) .nil))) (.tup (.cons (.cst (.str [119, 111, 114, 100])) (.cons (.var 1) .nil)))) (.cst (.int 1))) .nil)))
    .skip), "", "_law_many"⟩
/-- number 196 -/
noncomputable def f_law_k32 : PL.Dd := ⟨"law", ["script"], ["script", "k", "cell", "some", "names", "new", "many", "least", "one", "other", "first", "second", "both"],
  (.seq (.fr (.nm 1) (.rng (.cons (.cst (.int 10)) .nil)) (.seq (.asg (.nm 2) (.bin .Add (.call 7 (.cons (.var 0) (.cons (.bin .Mod (.var 1) (.cst (.int 9))) .nil))) (.bin .Mult (.cst (.int 89)) (.var 1))))
    (.seq (.asg (.nm 3) (.call 12 (.cons (.var 2) (.cons (.cst (.int 4)) .nil))))
    (.seq (.asg (.nm 4) (.call 142 (.cons (.var 3) .nil)))
    (.seq (.par [8, 9] (.cons (.sub (.var 4) (.call 8 (.cons (.var 2) (.cons (.cst (.int 9157)) (.cons (.bi .len (.cons (.var 4) .nil)) .nil))))) (.cons (.sub (.var 4) (.call 8 (.cons (.var 2) (.cons (.cst (.int 9151)) (.cons (.bi .len (.cons (.var 4) .nil)) .nil))))) .nil)))
    (.seq (.par [10, 11] (.cons (.call 194 (.cons (.bin .Add (.bin .Mult (.var 2) (.cst (.int 2))) (.cst (.int 5))) .nil)) (.cons (.call 194 (.cons (.bin .Add (.bin .Mult (.var 2) (.cst (.int 2))) (.cst (.int 8))) .nil)) .nil)))
    (.seq (.asg (.nm 5) (.call 138 (.cons (.var 3) (.cons (.var 8) (.cons (.var 10) .nil)))))
    (.seq (.ite (.bop .Or (.cons (.cmp .NotEq (.call 138 (.cons (.var 3) (.cons (.cst (.str [110, 111, 119, 104, 101, 114, 101])) (.cons (.var 10) .nil)))) (.var 3)) (.cons (.cmp .NotEq (.call 138 (.cons (.var 3) (.cons (.var 8) (.cons (.tup (.cons (.cst (.str [119, 111, 114, 100])) (.cons (.var 8) .nil))) .nil)))) (.var 3)) .nil))) (.seq (.ret (.cst (.bl false)))
    .skip) .skip)
    (.seq (.isc (.call 142 (.cons (.var 5) .nil)) (.var 4) 8 (.call 142 (.cons (.var 10) .nil)) (.seq (.ret (.cst (.bl false)))
    .skip) .skip)
    (.seq (.asg (.nm 6) (.call 195 (.cons (.var 3) (.cons (.var 8) .nil))))
    (.seq (.asg (.nm 7) (.bin .Add (.call 23 (.cons (.var 3) .nil)) (.bin .Mult (.var 6) (.bin .Sub (.call 23 (.cons (.var 10) .nil)) (.cst (.int 1))))))
    (.seq (.ite (.nt (.cmp2 .LtE .LtE (.var 7) (.call 23 (.cons (.var 5) .nil)) (.bin .Add (.var 7) (.var 6)))) (.seq (.ret (.cst (.bl false)))
    .skip) .skip)
    (.seq (.ite (.cmp .NotEq (.call 138 (.cons (.var 5) (.cons (.var 8) (.cons (.var 11) .nil)))) (.var 5)) (.seq (.ret (.cst (.bl false)))
    .skip) .skip)
    (.seq (.ite (.cmp .NotEq (.var 8) (.var 9)) (.seq (.asg (.nm 12) (.call 138 (.cons (.call 138 (.cons (.var 3) (.cons (.var 9) (.cons (.var 11) .nil)))) (.cons (.var 8) (.cons (.var 10) .nil)))))
    (.seq (.ite (.cmp .NotEq (.call 138 (.cons (.var 5) (.cons (.var 9) (.cons (.var 11) .nil)))) (.var 12)) (.seq (.ret (.cst (.bl false)))
    .skip) .skip)
    .skip)) .skip)
    .skip))))))))))))))
    (.seq (.ret (.cst (.bl true)))
    .skip)), "", "law"⟩

end Fn

namespace SM
open PL

inductive Kd where
  | word (t : List Nat) | chain (ss : List (List Nat)) | over | root | held | script (u d : Bool) | table (r c : Nat)
  deriving DecidableEq
inductive Sm where
  | nd (k : Kd) (ps : List Sm)
noncomputable def Sm.kd : Sm → Kd
  | .nd k _ => k
noncomputable def Sm.ps : Sm → List Sm
  | .nd _ ps => ps
/-- what holds of all parts holds of it -/
theorem Sm.ind {P : Sm → Prop} (h : ∀ k ps, (∀ p ∈ ps, P p) → P (.nd k ps)) : ∀ s, P s := by
  have all : ∀ (n : Nat) (s : Sm), sizeOf s ≤ n → P s := by
    intro n
    induction n with
    | zero => intro s hs; cases s; simp at hs
    | succ n ih =>
      intro s hs
      cases s with
      | nd k ps =>
        refine h k ps fun p hp => ih p ?_
        have := List.sizeOf_lt_of_mem hp
        simp only [Sm.nd.sizeOf_spec] at hs
        omega
  exact fun s => all _ s (Nat.le_refl _)
mutual
noncomputable def Sm.fold {α : Type} (f : Kd → List Sm → List α → α) : Sm → α
  | .nd k ps => f k ps (Sm.folds f ps)
noncomputable def Sm.folds {α : Type} (f : Kd → List Sm → List α → α) : List Sm → List α
  | [] => []
  | p :: ps => Sm.fold f p :: Sm.folds f ps
end
theorem folds_eq {α : Type} (f : Kd → List Sm → List α → α) : ∀ ps : List Sm, Sm.folds f ps = ps.map (Sm.fold f)
  | [] => by simp [Sm.folds]
  | p :: ps => by simp [Sm.folds, folds_eq f ps]
theorem fold_nd {α : Type} (f : Kd → List Sm → List α → α) (k : Kd) (ps : List Sm) : Sm.fold f (.nd k ps) = f k ps (ps.map (Sm.fold f)) := by
  rw [Sm.fold, folds_eq]

/-- how many stand within one another -/
noncomputable def maxN : List Nat → Nat
  | [] => 0
  | n :: r => max n (maxN r)
theorem le_maxN : ∀ {l : List Nat} {n : Nat}, n ∈ l → n ≤ maxN l
  | a :: r, n, h => by
    unfold maxN
    rcases List.mem_cons.mp h with e | e
    · omega
    · have := le_maxN e; omega
theorem maxN_le {l : List Nat} {m : Nat} (h : ∀ n ∈ l, n ≤ m) : maxN l ≤ m := by
  induction l with
  | nil => simp [maxN]
  | cons a r ih =>
    unfold maxN
    have h1 := h a (by simp)
    have h2 := ih fun n hn => h n (by simp [hn])
    omega
noncomputable def dp : Sm → Nat := Sm.fold fun _ _ ds => maxN ds + 1
theorem dp_nd (k : Kd) (ps : List Sm) : dp (.nd k ps) = maxN (ps.map dp) + 1 := fold_nd _ k ps
theorem dp_lt {k : Kd} {ps : List Sm} {p : Sm} (h : p ∈ ps) : dp p < dp (.nd k ps) := by
  rw [dp_nd]
  have := le_maxN (List.mem_map_of_mem (f := dp) h)
  omega
theorem dp_pos (s : Sm) : 1 ≤ dp s := by
  cases s with
  | nd k ps => rw [dp_nd]; omega

noncomputable def Kd.name : Kd → List Nat
  | .word _ => [119, 111, 114, 100]
  | .chain _ => [99, 104, 97, 105, 110]
  | .over => [111, 118, 101, 114]
  | .root => [114, 111, 111, 116]
  | .held => [104, 101, 108, 100]
  | .script _ _ => [115, 99, 114, 105, 112, 116]
  | .table _ _ => [116, 97, 98, 108, 101]

/-- r rows of c each -/
noncomputable def chunk {α : Type} : Nat → Nat → List α → List (List α)
  | 0, _, _ => []
  | r + 1, c, xs => xs.take c :: chunk r c (xs.drop c)
theorem chunk_map {α β : Type} (f : α → β) : ∀ (r c : Nat) (xs : List α), chunk r c (xs.map f) = (chunk r c xs).map (List.map f)
  | 0, _, _ => rfl
  | r + 1, c, xs => by
    simp only [chunk, List.map_cons, ← List.map_take, ← List.map_drop, chunk_map f r c]
theorem chunk_length {α : Type} : ∀ (r c : Nat) (xs : List α), (chunk r c xs).length = r
  | 0, _, _ => rfl
  | r + 1, c, xs => by simp only [chunk, List.length_cons, chunk_length r c]
theorem chunk_mem {α : Type} : ∀ (r c : Nat) (xs : List α), ∀ row ∈ chunk r c xs, ∀ x ∈ row, x ∈ xs
  | 0, _, _ => by simp [chunk]
  | r + 1, c, xs => fun row hr x hx => by
    rcases List.mem_cons.mp hr with z | z
    · subst z; exact List.mem_of_mem_take hx
    · exact List.mem_of_mem_drop (chunk_mem r c (xs.drop c) row z x hx)
theorem chunk_flatten {α : Type} : ∀ (r c : Nat) (xs : List α), xs.length = r * c → (chunk r c xs).flatten = xs
  | 0, _, xs, h => by
    have : xs = [] := List.eq_nil_of_length_eq_zero (by simpa using h)
    subst this; rfl
  | r + 1, c, xs, h => by
    have e : (r + 1) * c = r * c + c := Nat.succ_mul r c
    simp only [chunk, List.flatten_cons]
    rw [chunk_flatten r c (xs.drop c) (by rw [List.length_drop]; omega), List.take_append_drop]

noncomputable def pairs (ss : List (List Nat)) (vs : List PV) : List PV := (ss.zip vs).map fun p => .tup [.str p.1, p.2]
noncomputable def encK (k : Kd) (vs : List PV) : PV :=
  match k with
  | .word t => .tup [.str [119, 111, 114, 100], .str t]
  | .chain ss => .tup [.str [99, 104, 97, 105, 110], vs.headD .non, .tup (pairs ss vs.tail)]
  | .over => .tup (.str [111, 118, 101, 114] :: vs)
  | .root => .tup (.str [114, 111, 111, 116] :: vs)
  | .held => .tup (.str [104, 101, 108, 100] :: vs)
  | .script u d => .tup [.str [115, 99, 114, 105, 112, 116], vs.headD .non, if u then vs.getD 1 .non else .non, if d then vs.getD (if u then 2 else 1) .non else .non]
  | .table r c => .tup [.str [116, 97, 98, 108, 101], .tup ((chunk r c vs).map .tup)]
noncomputable def enc : Sm → PV := Sm.fold fun k _ vs => encK k vs
theorem enc_nd (k : Kd) (ps : List Sm) : enc (.nd k ps) = encK k (ps.map enc) := fold_nd _ k ps

/-- the shape of a node -/
noncomputable def Kd.sh : Kd → Nat → Prop
  | .word _, n => n = 0
  | .chain ss, n => n = ss.length + 1
  | .over, n => n = 2
  | .root, n => n = 1
  | .held, n => n = 1
  | .script u d, n => (u || d) = true ∧ n = 1 + u.toNat + d.toNat
  | .table r c, n => 1 ≤ r ∧ 1 ≤ c ∧ n = r * c
/-- every node has its shape, and not too many parts -/
inductive Sh : Sm → Prop where
  | nd {k : Kd} {ps : List Sm} : k.sh ps.length → ps.length ≤ 1000 → (∀ p ∈ ps, Sh p) → Sh (.nd k ps)
theorem Sh.kd {k : Kd} {ps : List Sm} (h : Sh (.nd k ps)) : k.sh ps.length := by cases h; assumption
theorem Sh.len {k : Kd} {ps : List Sm} (h : Sh (.nd k ps)) : ps.length ≤ 1000 := by cases h; assumption
theorem Sh.mem {k : Kd} {ps : List Sm} (h : Sh (.nd k ps)) : ∀ p ∈ ps, Sh p := by cases h; assumption

structure Bx where
  w : Int
  u : Int
  d : Int
  deriving DecidableEq
noncomputable def Bx.rows (b : Bx) : Int := b.u + b.d + 1
noncomputable def encB (b : Bx) : PV := .tup [.int b.w, .int b.u, .int b.d]
end SM

namespace PL
/-- one call -/
theorem callF_of {T : Tab} {i : Nat} {d : Dd} (h : T.lookup i = some d) (n : Nat) (args : List PV) (st : Sto) : callF T (n + 1) i args st = runD (callF T n) d args st := by
  simp only [callF, h]
theorem fin_same (st : Sto) (v : PV) : fin st v st = .ok v st := by
  unfold fin
  split
  · rw [List.take_length]
  · rfl
theorem oldOk_app (n : Nat) : ∀ st cs : Sto, oldOk n st (st ++ cs) = true
  | [], _ => rfl
  | c :: r, cs => by simp [oldOk, Cell.beq_refl, oldOk_app n r cs]
theorem fin_app (st cs : Sto) (v : PV) (h : v.under st.length = true) : fin st v (st ++ cs) = .ok v st := by
  unfold fin
  rw [h, oldOk_app]
  simp
theorem finX_same (st : Sto) (c : Nat) : finX st c st = .exc c st := by
  unfold finX
  split
  · rw [List.take_length]
  · rfl
noncomputable def kTup : Res (List PV) → Res PV
  | .ok vs st => if vs.length ≤ SZ then .ok (.tup vs) st else .stuck
  | .exc c st => .exc c st
  | .stuck => .stuck
noncomputable def kLst : Res (List PV) → Res PV
  | .ok vs st => if vs.length ≤ SZ then .ok (.lst vs) st else .stuck
  | .exc c st => .exc c st
  | .stuck => .stuck
noncomputable def kBin2 (op : PySem.Operator) (x : PV) (r : Res PV) : Res PV := r.bind fun y st => .ofO (binV op (deref st x) (deref st y)) st
noncomputable def kBin (cf : CF) (op : PySem.Operator) (b : PX) (e : Env) (r : Res PV) : Res PV := r.bind fun x st => kBin2 op x (ev cf b e st)
noncomputable def kCmp2 (op : PySem.CmpOp) (x : PV) (r : Res PV) : Res PV := r.bind fun y st => .ofO ((cmpV op (deref st x) (deref st y)).map .bl) st
noncomputable def kCmp (cf : CF) (op : PySem.CmpOp) (b : PX) (e : Env) (r : Res PV) : Res PV := r.bind fun x st => kCmp2 op x (ev cf b e st)
noncomputable def kChn4 (op' : PySem.CmpOp) (y : PV) (r : Res PV) : Res PV := r.bind fun z st => .ofO ((cmpV op' (deref st y) (deref st z)).map .bl) st
noncomputable def kChn3 (cf : CF) (op' : PySem.CmpOp) (c : PX) (e : Env) (y : PV) (r : Res Bool) : Res PV := r.bind fun k st => if k then kChn4 op' y (ev cf c e st) else .ok (.bl false) st
noncomputable def kChn2 (cf : CF) (op op' : PySem.CmpOp) (c : PX) (e : Env) (x : PV) (r : Res PV) : Res PV := r.bind fun y st => kChn3 cf op' c e y (.ofO (cmpV op (deref st x) (deref st y)) st)
noncomputable def kChn (cf : CF) (op op' : PySem.CmpOp) (b c : PX) (e : Env) (r : Res PV) : Res PV := r.bind fun x st => kChn2 cf op op' c e x (ev cf b e st)
noncomputable def kNt (r : Res PV) : Res PV := r.bind fun x st => match x with
  | .bl b => .ok (.bl (!b)) st
  | _ => .stuck
noncomputable def kNeg (r : Res PV) : Res PV := r.bind fun x st => match x with
  | .int i => .ok (.int (-i)) st
  | _ => .stuck
noncomputable def kIf (cf : CF) (a b : PX) (e : Env) (r : Res Bool) : Res PV := r.bind fun k st => if k then ev cf a e st else ev cf b e st
noncomputable def kAt2 (x : PV) (r : Res PV) : Res PV := r.bind fun y st => .ofO (atV (deref st x) y) st
noncomputable def kAt (cf : CF) (i : PX) (e : Env) (r : Res PV) : Res PV := r.bind fun x st => kAt2 x (ev cf i e st)
noncomputable def kSl3 (x : PV) (l : Option Int) (r : Res (Option Int)) : Res PV := r.bind fun h st => .ofO (slV (deref st x) l h) st
noncomputable def kSl2 (cf : CF) (hi : PO) (e : Env) (x : PV) (r : Res (Option Int)) : Res PV := r.bind fun l st => kSl3 x l (evO cf hi e st)
noncomputable def kSl (cf : CF) (lo hi : PO) (e : Env) (r : Res PV) : Res PV := r.bind fun x st => kSl2 cf hi e x (evO cf lo e st)
noncomputable def kNls : Res (List PV) → Res PV
  | .ok vs st => if vs.length ≤ SZ then .ok (.ref st.length) (st ++ [.lst vs]) else .stuck
  | .exc c st => .exc c st
  | .stuck => .stuck
noncomputable def kNof2 (st : Sto) : Option PV → Res PV
  | some (.lst xs) => .ok (.ref st.length) (st ++ [.lst xs])
  | _ => .stuck
noncomputable def kNof (r : Res PV) : Res PV := r.bind fun x st => kNof2 st (bList [deref st x])
noncomputable def kNcat3 (st : Sto) : Option PV → Res PV
  | some (.lst xs) => .ok (.ref st.length) (st ++ [.lst xs])
  | _ => .stuck
noncomputable def kNcat2 (x : PV) (r : Res PV) : Res PV := r.bind fun y st => kNcat3 st (addV (deref st x) (deref st y))
noncomputable def kNcat (cf : CF) (b : PX) (e : Env) (r : Res PV) : Res PV := r.bind fun x st => kNcat2 x (ev cf b e st)
noncomputable def kFz (r : Res PV) : Res PV := r.bind fun x st => fzV x st
noncomputable def kMth2 (m : Mth) (x : PV) (r : Res (List PV)) : Res PV := r.bind fun vs st => mthV m x vs st
noncomputable def kMth (cf : CF) (m : Mth) (es : PXs) (e : Env) (r : Res PV) : Res PV := r.bind fun x st => if liveL x st then kMth2 m x (evs cf es e st) else .stuck
noncomputable def kMxd2 (x : PV) (r : Res PV) : Res PV := r.bind fun y st2 => .ofO (mxdV (deref st2 x) y) st2
noncomputable def kMxd (cf : CF) (b : PX) (e : Env) (r : Res PV) : Res PV := r.bind fun x st1 => kMxd2 x (ev cf b e st1)
noncomputable def kMnd2 (x : PV) (r : Res PV) : Res PV := r.bind fun y st2 => .ofO (mndV (deref st2 x) y) st2
noncomputable def kMnd (cf : CF) (b : PX) (e : Env) (r : Res PV) : Res PV := r.bind fun x st1 => kMnd2 x (ev cf b e st1)
noncomputable def kU1 (op : U1) (r : Res PV) : Res PV := r.bind fun x st => .ofO (u1V op (deref st x)) st
noncomputable def kRv2 (x : PV) (r : Res PV) : Res PV := r.bind fun y st2 => .ofO (rvV (deref st2 x) y) st2
noncomputable def kRv (cf : CF) (b : PX) (e : Env) (r : Res PV) : Res PV := r.bind fun x st1 => kRv2 x (ev cf b e st1)
noncomputable def kSm2 (m : Sm1) (s : List Nat) (r : Res PV) : Res PV := r.bind fun y st2 => .ofO (smV m s (deref st2 y)) st2
noncomputable def kSm (cf : CF) (m : Sm1) (b : PX) (e : Env) (r : Res PV) : Res PV := r.bind fun x st1 => match x with
  | .str s => kSm2 m s (ev cf b e st1)
  | _ => .stuck
noncomputable def kAtt (C f : PySem.Str) (r : Res PV) : Res PV := r.bind fun x st => .ofO ((objAt st x).bind fun p => if p.1 = C then p.2.lookup f else none) st
noncomputable def kMet3 (cf : CF) (i : Nat) (x : PV) (r : Res (List PV)) : Res PV := r.bind fun vs st => cf i (x :: vs) st
noncomputable def kMet2 (cf : CF) (C m : PySem.Str) (i : Nat) (es : PXs) (e : Env) (x : PV) (st : Sto) : Option (PySem.Str × Flds) → Res PV
  | some (D, fs) => if D = C ∧ fs.lookup m = none then kMet3 cf i x (evs cf es e st) else .stuck
  | none => .stuck
noncomputable def kMet (cf : CF) (C m : PySem.Str) (i : Nat) (es : PXs) (e : Env) (r : Res PV) : Res PV := r.bind fun x st => kMet2 cf C m i es e x st (objAt st x)
noncomputable def kMk (cf : CF) (C : PySem.Str) (i : Nat) (r : Res (List PV)) : Res PV := r.bind fun vs st => mkEnd st.length (cf i (.ref st.length :: vs) (st ++ [.obj C []]))
noncomputable def kIsi (ts : List Ty) (r : Res PV) : Res PV := r.bind fun x st => .ofO ((isiV (deref st x) ts).map .bl) st
noncomputable def kCall (cf : CF) (f : Nat) (r : Res (List PV)) : Res PV := r.bind fun vs st => cf f vs st
noncomputable def kCsel2 (cf : CF) (es : PXs) (e : Env) (r : Res Nat) : Res PV := r.bind fun j st2 => kCall cf j (evs cf es e st2)
noncomputable def kCsel (cf : CF) (f g : Nat) (es : PXs) (e : Env) (r : Res PV) : Res PV := r.bind fun x st1 => kCsel2 cf es e (.ofO (selB f g x) st1)
noncomputable def kBi (b : Bi) (r : Res (List PV)) : Res PV := r.bind fun vs st => .ofO (biV b (derefs st vs)) st
noncomputable def kCons2 (x : PV) (r : Res (List PV)) : Res (List PV) := r.bind fun xs st => .ok (x :: xs) st
noncomputable def kCons (cf : CF) (p : PXs) (e : Env) (r : Res PV) : Res (List PV) := r.bind fun x st => kCons2 x (evs cf p e st)
noncomputable def kBop (cf : CF) (op : PySem.BoolOp) (p : PXs) (e : Env) (r : Res PV) : Res PV := r.bind fun x st1 => match x with
    | .bl k => match op, k with
      | .And, true => evB cf op p e st1
      | .And, false => .ok (.bl false) st1
      | .Or, true => .ok (.bl true) st1
      | .Or, false => evB cf op p e st1
    | _ => .stuck
noncomputable def kTru (r : Res PV) : Res Bool := r.bind fun x st => .ofO (truV (deref st x)) st
noncomputable def kTc2 (op : PySem.CmpOp) (x : PV) (r : Res PV) : Res Bool := r.bind fun y st => .ofO (cmpV op (deref st x) (deref st y)) st
noncomputable def kTc (cf : CF) (op : PySem.CmpOp) (b : PX) (e : Env) (r : Res PV) : Res Bool := r.bind fun x st => kTc2 op x (ev cf b e st)
noncomputable def kTn4 (op' : PySem.CmpOp) (y : PV) (r : Res PV) : Res Bool := r.bind fun z st => .ofO (cmpV op' (deref st y) (deref st z)) st
noncomputable def kTn3 (cf : CF) (op' : PySem.CmpOp) (c : PX) (e : Env) (y : PV) (r : Res Bool) : Res Bool := r.bind fun k st => if k then kTn4 op' y (ev cf c e st) else .ok false st
noncomputable def kTn2 (cf : CF) (op op' : PySem.CmpOp) (c : PX) (e : Env) (x : PV) (r : Res PV) : Res Bool := r.bind fun y st => kTn3 cf op' c e y (.ofO (cmpV op (deref st x) (deref st y)) st)
noncomputable def kTn (cf : CF) (op op' : PySem.CmpOp) (b c : PX) (e : Env) (r : Res PV) : Res Bool := r.bind fun x st => kTn2 cf op op' c e x (ev cf b e st)
noncomputable def kTnt (r : Res Bool) : Res Bool := r.bind fun b st => .ok (!b) st
noncomputable def kTb (cf : CF) (op : PySem.BoolOp) (p : PTs) (e : Env) (r : Res Bool) : Res Bool := r.bind fun k st1 => match op, k with
      | .And, true => evBT cf op p e st1
      | .And, false => .ok false st1
      | .Or, true => .ok true st1
      | .Or, false => evBT cf op p e st1
noncomputable def kO (r : Res PV) : Res (Option Int) := r.bind fun x st => .ofO (ivO x) st
noncomputable def kSeqI (r : Res PV) : Res (List PV) := r.bind fun x st => .ofO (itV x) st
noncomputable def kRng (r : Res (List PV)) : Res (List PV) := r.bind fun vs st => .ofO (rngV vs) st
noncomputable def kEnum (r : Res PV) : Res (List PV) := r.bind fun x st => .ofO ((itV x).map (enumL 0)) st
noncomputable def kZip2 (x : PV) (r : Res PV) : Res (List PV) := r.bind fun y st => .ofO ((itV x).bind fun xs => (itV y).map fun ys => zipL xs ys) st
noncomputable def kZip (cf : CF) (b : PX) (e : Env) (r : Res PV) : Res (List PV) := r.bind fun x st => kZip2 x (ev cf b e st)
/-- one item of a comprehension -/
noncomputable def kEl (r : Res PV) : Res (Option PV) := r.bind fun v st => .ok (some v) st
noncomputable def kCf2 (cf : CF) (el : PX) (e1 : Env) (r : Res Bool) : Res (Option PV) := r.bind fun b st => if b then kEl (ev cf el e1 st) else .ok none st
noncomputable def kCf (cf : CF) (c : PT) (el : PX) (st : Sto) : Option Env → Res (Option PV)
  | none => .stuck
  | some e1 => kCf2 cf el e1 (evT cf c e1 st)
noncomputable def compF (cf : CF) (t : Tg) (c : PT) (el : PX) (e : Env) (x : PV) (st : Sto) : Res (Option PV) := kCf cf c el st (asgT t x e)
noncomputable def kCompE (r : Res (List PV)) : Res PV := r.calm.bind fun vs st => .ok (.lst vs) st
noncomputable def kComp (cf : CF) (t : Tg) (c : PT) (el : PX) (e : Env) (r : Res (List PV)) : Res PV := r.bind fun items st => if items.length ≤ SZ then kCompE (compL (compF cf t c el e) items st) else .stuck
noncomputable def kSeq (cf : CF) (b : PS) : Out → Out
  | .next e st => run cf b e st
  | .brk e st => .brk e st
  | .cnt e st => .cnt e st
  | .ret v st => .ret v st
  | .exc c e st => .exc c e st
  | .stuck => .stuck
noncomputable def kAsg2 (st : Sto) : Option Env → Out
  | some e => .next e st
  | none => .stuck
noncomputable def kAsg (t : Tg) (e : Env) (r : Res PV) : Out := r.out e fun v st => kAsg2 st (asgT t v e)
noncomputable def kPar (is : List Nat) (e : Env) (r : Res (List PV)) : Out := r.out e fun vs st => kAsg2 st (setAll is vs e)
noncomputable def kExp (e : Env) (r : Res PV) : Out := r.out e fun _ st => .next e st
noncomputable def kSat3 (e : Env) : Option Sto → Out
  | some st => .next e st
  | none => .stuck
noncomputable def kSat2 (C f : PySem.Str) (e : Env) (y : PV) (r : Res PV) : Out := r.out e fun o st => kSat3 e (satV C f y st o)
noncomputable def kSat (cf : CF) (a : PX) (C f : PySem.Str) (e : Env) (r : Res PV) : Out := r.out e fun y st => kSat2 C f e y (ev cf a e st)
noncomputable def kSto3 (f : Sto → Out) : Option Sto → Out
  | some st => f st
  | none => .stuck
noncomputable def kSto2 (e : Env) (v : PV) (f : Sto → Out) (o : PV) (r : Res PV) : Out := r.out e fun k st => kSto3 f (setI st v o k)
noncomputable def kSto (cf : CF) (i : PX) (e : Env) (v : PV) (f : Sto → Out) (r : Res PV) : Out := r.out e fun o st => kSto2 e v f o (ev cf i e st)
noncomputable def kSt1 (cf : CF) (a i : PX) (e : Env) (r : Res PV) : Out := r.out e fun v st => kSto cf i e v (fun st2 => .next e st2) (ev cf a e st)
noncomputable def kSt2 (cf : CF) (a i b j : PX) (e : Env) (r : Res PV) : Out := r.out e fun v st1 => match v with
  | .tup [y, z] => kSto cf i e y (fun st2 => kSto cf j e z (fun st3 => .next e st3) (ev cf b e st2)) (ev cf a e st1)
  | _ => .stuck
noncomputable def kTry (cf : CF) (ks : List Nat) (d : Nat) (s : PS) : Out → Out
  | .exc c e st => if decide (c ∈ ks) then (if catches c d then run cf s e st else .exc c e st) else .stuck
  | o => o
noncomputable def kTryW (ks : List Nat) (d ie : Nat) (j : Option Nat) : Out → Out
  | .exc c e st => if decide (c ∈ ks) && catches c d then wordE j ie c e st else .stuck
  | o => o
noncomputable def kRet (e : Env) (r : Res PV) : Out := r.out e fun v st => .ret v st
noncomputable def kIte (cf : CF) (a b : PS) (e : Env) (r : Res Bool) : Out := r.out e fun k st => if k then run cf a e st else run cf b e st
noncomputable def kFor2 (cf : CF) (b : PS) (st : Sto) : Option Env → Out
  | none => .stuck
  | some e => run cf b e st
noncomputable def forF (cf : CF) (t : Tg) (b : PS) (x : PV) (e : Env) (st : Sto) : Out := kFor2 cf b st (asgT t x e)
noncomputable def kFor (cf : CF) (t : Tg) (b : PS) (e : Env) (r : Res (List PV)) : Out := r.out e fun items st => forL (forF cf t b) items e st
noncomputable def kFrz2 (cf : CF) (p : PS) (i : Nat) (e : Env) (st : Sto) (l : Nat) : Option Cell → Out
  | some (.lst xs) => run cf p (e.set i (some (.lst xs))) (st.set l .dead)
  | _ => .stuck
noncomputable def kFrz (cf : CF) (p : PS) (i : Nat) (e : Env) (st : Sto) : Option (Option PV) → Out
  | some (some (.ref l)) => kFrz2 cf p i e st l st[l]?
  | _ => .stuck
/-- a call's end -/
noncomputable def kFn (st0 : Sto) : Out → Res PV
  | .ret v st1 => fin st0 v st1
  | .next _ st1 => fin st0 .non st1
  | .exc c _ st1 => finX st0 c st1
  | _ => .stuck
section
variable {cf : CF} {e : Env} {st : Sto}
@[simp] theorem v_cst {v : PV} : ev cf (.cst v) e st = .ok v st := by simp only [ev]
@[simp] theorem v_glb {x : PySem.Str} {v : PV} : ev cf (.glb x v) e st = .ok v st := by simp only [ev]
@[simp] theorem v_tup {es : PXs} : ev cf (.tup es) e st = kTup (evs cf es e st) := by simp only [ev]; cases evs cf es e st <;> rfl
@[simp] theorem v_lst {es : PXs} : ev cf (.lst es) e st = kLst (evs cf es e st) := by simp only [ev]; cases evs cf es e st <;> rfl
@[simp] theorem v_bin {op : PySem.Operator} {a b : PX} : ev cf (.bin op a b) e st = kBin cf op b e (ev cf a e st) := by simp only [ev]; rfl
@[simp] theorem v_cmp {op : PySem.CmpOp} {a b : PX} : ev cf (.cmp op a b) e st = kCmp cf op b e (ev cf a e st) := by simp only [ev]; rfl
@[simp] theorem v_cmp2 {op op' : PySem.CmpOp} {a b c : PX} : ev cf (.cmp2 op op' a b c) e st = kChn cf op op' b c e (ev cf a e st) := by simp only [ev]; rfl
@[simp] theorem v_bop {op : PySem.BoolOp} {es : PXs} : ev cf (.bop op es) e st = evB cf op es e st := by simp only [ev]
@[simp] theorem v_nt {a : PX} : ev cf (.nt a) e st = kNt (ev cf a e st) := by simp only [ev]; rfl
@[simp] theorem v_neg {a : PX} : ev cf (.neg a) e st = kNeg (ev cf a e st) := by simp only [ev]; rfl
@[simp] theorem v_ite {c : PT} {a b : PX} : ev cf (.ite c a b) e st = kIf cf a b e (evT cf c e st) := by simp only [ev]; rfl
@[simp] theorem v_sub {a i : PX} : ev cf (.sub a i) e st = kAt cf i e (ev cf a e st) := by simp only [ev]; rfl
@[simp] theorem v_slc {a : PX} {lo hi : PO} : ev cf (.slc a lo hi) e st = kSl cf lo hi e (ev cf a e st) := by simp only [ev]; rfl
@[simp] theorem v_call {f : Nat} {es : PXs} : ev cf (.call f es) e st = kCall cf f (evs cf es e st) := by simp only [ev]; rfl
@[simp] theorem v_bi {b : Bi} {es : PXs} : ev cf (.bi b es) e st = kBi b (evs cf es e st) := by simp only [ev]; rfl
@[simp] theorem v_comp {own : List Nat} {t : Tg} {s : Src} {c : PT} {el : PX} : ev cf (.comp own t s c el) e st = kComp cf t c el (wipeR e own) (evI cf s e st) := by
  simp only [ev]
  rfl
@[simp] theorem v_nlst {es : PXs} : ev cf (.nlst es) e st = kNls (evs cf es e st) := by simp only [ev]; cases evs cf es e st <;> rfl
@[simp] theorem v_nof {a : PX} : ev cf (.nof a) e st = kNof (ev cf a e st) := by
  simp only [ev]
  cases ev cf a e st with
  | ok x st1 =>
    simp only [Res.bind_ok, kNof]
    cases bList [deref st1 x] with
    | none => rfl
    | some v => cases v <;> rfl
  | exc c st1 => rfl
  | stuck => rfl
@[simp] theorem v_ncat {a b : PX} : ev cf (.ncat a b) e st = kNcat cf b e (ev cf a e st) := by
  simp only [ev]
  cases ev cf a e st with
  | ok x st1 =>
    simp only [Res.bind_ok, kNcat, kNcat2]
    cases ev cf b e st1 with
    | ok y st2 =>
      simp only [Res.bind_ok]
      cases addV (deref st2 x) (deref st2 y) with
      | none => rfl
      | some v => cases v <;> rfl
    | exc c st2 => rfl
    | stuck => rfl
  | exc c st1 => rfl
  | stuck => rfl
@[simp] theorem v_fz {a : PX} : ev cf (.fz a) e st = kFz (ev cf a e st) := by simp only [ev]; rfl
@[simp] theorem v_mth {m : Mth} {a : PX} {es : PXs} : ev cf (.mth m a es) e st = kMth cf m es e (ev cf a e st) := by simp only [ev]; rfl
@[simp] theorem v_mnd {a b : PX} : ev cf (.mnd a b) e st = kMnd cf b e (ev cf a e st) := by simp only [ev]; rfl
@[simp] theorem v_csel {f g : Nat} {a : PX} {es : PXs} : ev cf (.csel f g a es) e st = kCsel cf f g es e (ev cf a e st) := by simp only [ev]; rfl
@[simp] theorem v_mxd {a b : PX} : ev cf (.mxd a b) e st = kMxd cf b e (ev cf a e st) := by simp only [ev]; rfl
@[simp] theorem v_u1 {op : U1} {a : PX} : ev cf (.u1 op a) e st = kU1 op (ev cf a e st) := by simp only [ev]; rfl
@[simp] theorem v_rv {a b : PX} : ev cf (.rv a b) e st = kRv cf b e (ev cf a e st) := by simp only [ev]; rfl
@[simp] theorem v_sm {m : Sm1} {a b : PX} : ev cf (.sm m a b) e st = kSm cf m b e (ev cf a e st) := by simp only [ev]; rfl
@[simp] theorem v_att {a : PX} {C f : PySem.Str} : ev cf (.att a C f) e st = kAtt C f (ev cf a e st) := by simp only [ev]; rfl
@[simp] theorem v_met {a : PX} {C m : PySem.Str} {i : Nat} {es : PXs} : ev cf (.met a C m i es) e st = kMet cf C m i es e (ev cf a e st) := by
  simp only [ev]
  cases ev cf a e st with
  | ok x st1 =>
    simp only [Res.bind_ok, kMet]
    cases objAt st1 x with
    | none => rfl
    | some p => rfl
  | exc c st1 => rfl
  | stuck => rfl
@[simp] theorem v_mk {C : PySem.Str} {i : Nat} {es : PXs} : ev cf (.mk C i es) e st = kMk cf C i (evs cf es e st) := by simp only [ev]; rfl
@[simp] theorem v_isi {a : PX} {ts : List Ty} : ev cf (.isi a ts) e st = kIsi ts (ev cf a e st) := by simp only [ev]; rfl
theorem v_var {i : Nat} {v : PV} (h : e[i]? = some (some v)) : ev cf (.var i) e st = .ok v st := by simp only [ev, h]
@[simp] theorem v_var0 {v : PV} {r : Env} : ev cf (.var 0) (some v :: r) st = .ok v st := v_var rfl
@[simp] theorem v_varS {i : Nat} {o : Option PV} {r : Env} : ev cf (.var (i + 1)) (o :: r) st = ev cf (.var i) r st := by simp only [ev, List.getElem?_cons_succ]
@[simp] theorem vs_nil : evs cf .nil e st = .ok [] st := by simp only [evs]
@[simp] theorem vs_cons {a : PX} {r : PXs} : evs cf (.cons a r) e st = kCons cf r e (ev cf a e st) := by simp only [evs]; rfl
@[simp] theorem vb_one {op : PySem.BoolOp} {a : PX} : evB cf op (.cons a .nil) e st = ev cf a e st := by simp only [evB]
@[simp] theorem vb_cons {op : PySem.BoolOp} {a b : PX} {r : PXs} : evB cf op (.cons a (.cons b r)) e st = kBop cf op (.cons b r) e (ev cf a e st) := by simp only [evB]; rfl
@[simp] theorem vt_yes : evT cf .yes e st = .ok true st := by simp only [evT]
@[simp] theorem vt_val {p : PX} : evT cf (.val p) e st = kTru (ev cf p e st) := by simp only [evT]; rfl
@[simp] theorem vt_cmp {op : PySem.CmpOp} {a b : PX} : evT cf (.cmp op a b) e st = kTc cf op b e (ev cf a e st) := by simp only [evT]; rfl
@[simp] theorem vt_cmp2 {op op' : PySem.CmpOp} {a b c : PX} : evT cf (.cmp2 op op' a b c) e st = kTn cf op op' b c e (ev cf a e st) := by simp only [evT]; rfl
@[simp] theorem vt_bop {op : PySem.BoolOp} {es : PTs} : evT cf (.bop op es) e st = evBT cf op es e st := by simp only [evT]
@[simp] theorem vt_nt {a : PT} : evT cf (.nt a) e st = kTnt (evT cf a e st) := by simp only [evT]; rfl
@[simp] theorem vbt_one {op : PySem.BoolOp} {a : PT} : evBT cf op (.cons a .nil) e st = evT cf a e st := by simp only [evBT]
@[simp] theorem vbt_cons {op : PySem.BoolOp} {a b : PT} {r : PTs} : evBT cf op (.cons a (.cons b r)) e st = kTb cf op (.cons b r) e (evT cf a e st) := by simp only [evBT]; rfl
@[simp] theorem vo_no : evO cf .no e st = .ok none st := by simp only [evO]
@[simp] theorem vo_some {p : PX} : evO cf (.some p) e st = kO (ev cf p e st) := by simp only [evO]; rfl
@[simp] theorem vi_seq {a : PX} : evI cf (.seq a) e st = kSeqI (ev cf a e st) := by simp only [evI]; rfl
@[simp] theorem vi_rng {es : PXs} : evI cf (.rng es) e st = kRng (evs cf es e st) := by simp only [evI]; rfl
@[simp] theorem vi_enum {a : PX} : evI cf (.enum a) e st = kEnum (ev cf a e st) := by simp only [evI]; rfl
@[simp] theorem vi_zip {a b : PX} : evI cf (.zip a b) e st = kZip cf b e (ev cf a e st) := by simp only [evI]; rfl
@[simp] theorem r_skip : run cf .skip e st = .next e st := by simp only [run]
@[simp] theorem r_seq {a b : PS} : run cf (.seq a b) e st = kSeq cf b (run cf a e st) := by simp only [run]; cases run cf a e st <;> rfl
@[simp] theorem r_asg {t : Tg} {x : PX} : run cf (.asg t x) e st = kAsg t e (ev cf x e st) := by
  simp only [run]
  rfl
@[simp] theorem r_par {is : List Nat} {es : PXs} : run cf (.par is es) e st = kPar is e (evs cf es e st) := by
  simp only [run]
  rfl
@[simp] theorem r_exp {x : PX} : run cf (.exp x) e st = kExp e (ev cf x e st) := by simp only [run]; rfl
@[simp] theorem r_sat {a x : PX} {C f : PySem.Str} : run cf (.sat a C f x) e st = kSat cf a C f e (ev cf x e st) := by
  simp only [run]
  rfl
theorem sto1_eq {a i : PX} {v : PV} {f : Sto → Out} : sto1 cf a i e v st f = kSto cf i e v f (ev cf a e st) := by
  unfold sto1 kSto kSto2
  cases ev cf a e st with
  | ok o st1 =>
    simp only [Res.out]
    cases ev cf i e st1 with
    | ok k st2 => simp only; cases setI st2 v o k <;> rfl
    | exc c st2 => rfl
    | stuck => rfl
  | exc c st1 => rfl
  | stuck => rfl
@[simp] theorem r_st1 {a i x : PX} : run cf (.st1 a i x) e st = kSt1 cf a i e (ev cf x e st) := by
  simp only [run, kSt1, sto1_eq]
@[simp] theorem r_st2 {a i b j x : PX} : run cf (.st2 a i b j x) e st = kSt2 cf a i b j e (ev cf x e st) := by
  simp only [run, kSt2, sto1_eq] <;> rfl
@[simp] theorem r_rse {c : Nat} : run cf (.rse c) e st = .exc c e st := by simp only [run]
@[simp] theorem r_tryO {b s : PS} {ks : List Nat} {d : Nat} : run cf (.tryO b ks d s) e st = kTry cf ks d s (run cf b e st) := by
  simp only [run]
  cases run cf b e st <;> rfl
@[simp] theorem r_tryW {b : PS} {ks : List Nat} {d ie i : Nat} {j : Option Nat} : run cf (.tryW b ks d ie i j) e st = kTryW ks d ie j (run cf b e st) := by
  simp only [run]
  cases run cf b e st <;> rfl
@[simp] theorem r_ret {x : PX} : run cf (.ret x) e st = kRet e (ev cf x e st) := by simp only [run]; rfl
@[simp] theorem r_ite {c : PT} {a b : PS} : run cf (.ite c a b) e st = kIte cf a b e (evT cf c e st) := by simp only [run]; rfl
@[simp] theorem r_fr {t : Tg} {s : Src} {b : PS} : run cf (.fr t s b) e st = kFor cf t b e (evI cf s e st) := by
  simp only [run]
  rfl
@[simp] theorem r_frz {i : Nat} {p : PS} : run cf (.frz i p) e st = kFrz cf p i e st e[i]? := by
  simp only [run]
  cases e[i]? with
  | none => rfl
  | some o =>
    cases o with
    | none => rfl
    | some v =>
      cases v <;> rfl
@[simp] theorem r_wh {c : PT} {b : PS} : run cf (.wh c b) e st = whL (fun e1 st1 => evT cf c e1 st1) (fun e1 st1 => run cf b e1 st1) WH e st := by simp only [run]
@[simp] theorem r_brk : run cf .brk e st = .brk e st := by simp only [run]
@[simp] theorem r_cnt : run cf .cnt e st = .cnt e st := by simp only [run]
end
theorem runD_of {cf : CF} {d : Dd} {args : List PV} {st : Sto} (h : args.length = d.ps.length) : runD cf d args st = kFn st (run cf d.body (start d args) st) := by
  unfold runD
  rw [if_pos h]
  cases run cf d.body (start d args) st <;> rfl
section
variable {cf : CF} {e : Env} {st : Sto}
@[simp] theorem k_tup (vs : List PV) : kTup (.ok vs st) = if vs.length ≤ SZ then .ok (.tup vs) st else .stuck := (rfl)
@[simp] theorem k_lst (vs : List PV) : kLst (.ok vs st) = if vs.length ≤ SZ then .ok (.lst vs) st else .stuck := (rfl)
@[simp] theorem k_bin (op : PySem.Operator) (b : PX) (x : PV) : kBin cf op b e (.ok x st) = kBin2 op x (ev cf b e st) := (rfl)
@[simp] theorem k_bin2 (op : PySem.Operator) (x y : PV) : kBin2 op x (.ok y st) = .ofO (binV op (deref st x) (deref st y)) st := (rfl)
@[simp] theorem k_cmp (op : PySem.CmpOp) (b : PX) (x : PV) : kCmp cf op b e (.ok x st) = kCmp2 op x (ev cf b e st) := (rfl)
@[simp] theorem k_cmp2 (op : PySem.CmpOp) (x y : PV) : kCmp2 op x (.ok y st) = .ofO ((cmpV op (deref st x) (deref st y)).map .bl) st := (rfl)
@[simp] theorem k_chn (op op' : PySem.CmpOp) (b c : PX) (x : PV) : kChn cf op op' b c e (.ok x st) = kChn2 cf op op' c e x (ev cf b e st) := (rfl)
@[simp] theorem k_chn2 (op op' : PySem.CmpOp) (c : PX) (x y : PV) : kChn2 cf op op' c e x (.ok y st) = kChn3 cf op' c e y (.ofO (cmpV op (deref st x) (deref st y)) st) := (rfl)
@[simp] theorem k_chn3t (op' : PySem.CmpOp) (c : PX) (y : PV) : kChn3 cf op' c e y (.ok true st) = kChn4 op' y (ev cf c e st) := (rfl)
@[simp] theorem k_chn3f (op' : PySem.CmpOp) (c : PX) (y : PV) : kChn3 cf op' c e y (.ok false st) = .ok (.bl false) st := (rfl)
@[simp] theorem k_chn4 (op' : PySem.CmpOp) (y z : PV) : kChn4 op' y (.ok z st) = .ofO ((cmpV op' (deref st y) (deref st z)).map .bl) st := (rfl)
@[simp] theorem k_nt (b : Bool) : kNt (.ok (.bl b) st) = .ok (.bl (!b)) st := (rfl)
@[simp] theorem k_neg (i : Int) : kNeg (.ok (.int i) st) = .ok (.int (-i)) st := (rfl)
@[simp] theorem k_ift (a b : PX) : kIf cf a b e (.ok true st) = ev cf a e st := (rfl)
@[simp] theorem k_iff (a b : PX) : kIf cf a b e (.ok false st) = ev cf b e st := (rfl)
@[simp] theorem k_at (i : PX) (x : PV) : kAt cf i e (.ok x st) = kAt2 x (ev cf i e st) := (rfl)
@[simp] theorem k_at2 (x y : PV) : kAt2 x (.ok y st) = .ofO (atV (deref st x) y) st := (rfl)
@[simp] theorem k_sl (lo hi : PO) (x : PV) : kSl cf lo hi e (.ok x st) = kSl2 cf hi e x (evO cf lo e st) := (rfl)
@[simp] theorem k_sl2 (hi : PO) (x : PV) (l : Option Int) : kSl2 cf hi e x (.ok l st) = kSl3 x l (evO cf hi e st) := (rfl)
@[simp] theorem k_sl3 (x : PV) (l h : Option Int) : kSl3 x l (.ok h st) = .ofO (slV (deref st x) l h) st := (rfl)
@[simp] theorem k_nls (vs : List PV) : kNls (.ok vs st) = if vs.length ≤ SZ then .ok (.ref st.length) (st ++ [.lst vs]) else .stuck := (rfl)
@[simp] theorem k_nof (x : PV) : kNof (.ok x st) = kNof2 st (bList [deref st x]) := (rfl)
@[simp] theorem k_nof2 (xs : List PV) : kNof2 st (some (.lst xs)) = .ok (.ref st.length) (st ++ [.lst xs]) := (rfl)
@[simp] theorem k_ncat (b : PX) (x : PV) : kNcat cf b e (.ok x st) = kNcat2 x (ev cf b e st) := (rfl)
@[simp] theorem k_ncat2 (x y : PV) : kNcat2 x (.ok y st) = kNcat3 st (addV (deref st x) (deref st y)) := (rfl)
@[simp] theorem k_ncat3 (xs : List PV) : kNcat3 st (some (.lst xs)) = .ok (.ref st.length) (st ++ [.lst xs]) := (rfl)
@[simp] theorem k_fz (x : PV) : kFz (.ok x st) = fzV x st := (rfl)
@[simp] theorem k_mth (m : Mth) (es : PXs) (x : PV) : kMth cf m es e (.ok x st) = if liveL x st then kMth2 m x (evs cf es e st) else .stuck := (rfl)
@[simp] theorem k_mth2 (m : Mth) (x : PV) (vs : List PV) : kMth2 m x (.ok vs st) = mthV m x vs st := (rfl)
@[simp] theorem k_mnd (b : PX) (x : PV) : kMnd cf b e (.ok x st) = kMnd2 x (ev cf b e st) := (rfl)
@[simp] theorem k_mnd2 (x y : PV) : kMnd2 x (.ok y st) = .ofO (mndV (deref st x) y) st := (rfl)
@[simp] theorem k_csel (f g : Nat) (es : PXs) (x : PV) : kCsel cf f g es e (.ok x st) = kCsel2 cf es e (.ofO (selB f g x) st) := (rfl)
@[simp] theorem k_csel2 (es : PXs) (j : Nat) : kCsel2 cf es e (.ok j st) = kCall cf j (evs cf es e st) := (rfl)
@[simp] theorem selB_0 (f g : Nat) : selB f g (.int 0) = some f := (rfl)
@[simp] theorem selB_1 (f g : Nat) : selB f g (.int 1) = some g := (rfl)
@[simp] theorem k_mxd (b : PX) (x : PV) : kMxd cf b e (.ok x st) = kMxd2 x (ev cf b e st) := (rfl)
@[simp] theorem k_mxd2 (x y : PV) : kMxd2 x (.ok y st) = .ofO (mxdV (deref st x) y) st := (rfl)
@[simp] theorem k_u1 (op : U1) (x : PV) : kU1 op (.ok x st) = .ofO (u1V op (deref st x)) st := (rfl)
@[simp] theorem rv_l (xs : List PV) : rvV (.lst xs) (.int (-1)) = some (.lst xs.reverse) := (rfl)
@[simp] theorem u1_lns (v : PV) : u1V .lns v = lnsV v := (rfl)
@[simp] theorem u1_upp (v : PV) : u1V .upp v = uppV v := (rfl)
@[simp] theorem k_rv (b : PX) (x : PV) : kRv cf b e (.ok x st) = kRv2 x (ev cf b e st) := (rfl)
@[simp] theorem k_rv2 (x y : PV) : kRv2 x (.ok y st) = .ofO (rvV (deref st x) y) st := (rfl)
@[simp] theorem rv_t (xs : List PV) : rvV (.tup xs) (.int (-1)) = some (.tup xs.reverse) := (rfl)
@[simp] theorem k_sm (m : Sm1) (b : PX) (s : List Nat) : kSm cf m b e (.ok (.str s) st) = kSm2 m s (ev cf b e st) := (rfl)
@[simp] theorem k_sm2 (m : Sm1) (s : List Nat) (y : PV) : kSm2 m s (.ok y st) = .ofO (smV m s (deref st y)) st := (rfl)
@[simp] theorem k_isi (ts : List Ty) (x : PV) : kIsi ts (.ok x st) = .ofO ((isiV (deref st x) ts).map .bl) st := (rfl)
@[simp] theorem k_att (C f : PySem.Str) (x : PV) : kAtt C f (.ok x st) = .ofO ((objAt st x).bind fun p => if p.1 = C then p.2.lookup f else none) st := (rfl)
@[simp] theorem k_met (C m : PySem.Str) (i : Nat) (es : PXs) (x : PV) : kMet cf C m i es e (.ok x st) = kMet2 cf C m i es e x st (objAt st x) := (rfl)
@[simp] theorem k_met3 (i : Nat) (x : PV) (vs : List PV) : kMet3 cf i x (.ok vs st) = cf i (x :: vs) st := (rfl)
@[simp] theorem k_mk (C : PySem.Str) (i : Nat) (vs : List PV) : kMk cf C i (.ok vs st) = mkEnd st.length (cf i (.ref st.length :: vs) (st ++ [.obj C []])) := (rfl)
@[simp] theorem k_mkEnd (l : Nat) : mkEnd l (.ok .non st) = .ok (.ref l) st := (rfl)
@[simp] theorem k_sat (a : PX) (C f : PySem.Str) (y : PV) : kSat cf a C f e (.ok y st) = kSat2 C f e y (ev cf a e st) := (rfl)
@[simp] theorem k_sat2 (C f : PySem.Str) (y o : PV) : kSat2 C f e y (.ok o st) = kSat3 e (satV C f y st o) := (rfl)
@[simp] theorem k_sat3 : kSat3 e (some st) = .next e st := (rfl)
@[simp] theorem k_tryn (ks : List Nat) (d : Nat) (s : PS) : kTry cf ks d s (.next e st) = .next e st := (rfl)
@[simp] theorem k_tryb (ks : List Nat) (d : Nat) (s : PS) : kTry cf ks d s (.brk e st) = .brk e st := (rfl)
@[simp] theorem k_tryc (ks : List Nat) (d : Nat) (s : PS) : kTry cf ks d s (.cnt e st) = .cnt e st := (rfl)
@[simp] theorem k_tryr (ks : List Nat) (d : Nat) (s : PS) (v : PV) : kTry cf ks d s (.ret v st) = .ret v st := (rfl)
@[simp] theorem k_tryx (ks : List Nat) (c d : Nat) (s : PS) : kTry cf ks d s (.exc c e st) = if decide (c ∈ ks) then (if catches c d then run cf s e st else .exc c e st) else .stuck := (rfl)
@[simp] theorem k_tryWn (ks : List Nat) (d ie : Nat) (j : Option Nat) : kTryW ks d ie j (.next e st) = .next e st := (rfl)
@[simp] theorem k_tryWb (ks : List Nat) (d ie : Nat) (j : Option Nat) : kTryW ks d ie j (.brk e st) = .brk e st := (rfl)
@[simp] theorem k_tryWc (ks : List Nat) (d ie : Nat) (j : Option Nat) : kTryW ks d ie j (.cnt e st) = .cnt e st := (rfl)
@[simp] theorem k_tryWr (ks : List Nat) (d ie : Nat) (j : Option Nat) (v : PV) : kTryW ks d ie j (.ret v st) = .ret v st := (rfl)
@[simp] theorem k_tryWx (ks : List Nat) (c d ie : Nat) (j : Option Nat) : kTryW ks d ie j (.exc c e st) = if decide (c ∈ ks) && catches c d then wordE j ie c e st else .stuck := (rfl)
@[simp] theorem wordE_n (ie c : Nat) : wordE none ie c e st = .ret (.str (wordT c)) st := (rfl)
@[simp] theorem wordE_s (j ie c : Nat) : wordE (some j) ie c e st = .next ((e.set j (some (.str (wordT c)))).set ie none) st := (rfl)
@[simp] theorem k_st1 (a i : PX) (v : PV) : kSt1 cf a i e (.ok v st) = kSto cf i e v (fun st2 => .next e st2) (ev cf a e st) := (rfl)
@[simp] theorem k_st2 (a i b j : PX) (y z : PV) : kSt2 cf a i b j e (.ok (.tup [y, z]) st) = kSto cf i e y (fun st2 => kSto cf j e z (fun st3 => .next e st3) (ev cf b e st2)) (ev cf a e st) := (rfl)
@[simp] theorem k_sto (i : PX) (v o : PV) (f : Sto → Out) : kSto cf i e v f (.ok o st) = kSto2 e v f o (ev cf i e st) := (rfl)
@[simp] theorem k_sto2 (v o k : PV) (f : Sto → Out) : kSto2 e v f o (.ok k st) = kSto3 f (setI st v o k) := (rfl)
@[simp] theorem k_sto3 (f : Sto → Out) : kSto3 f (some st) = f st := (rfl)
@[simp] theorem d_non : deref st .non = .non := (rfl)
@[simp] theorem d_bl (b : Bool) : deref st (.bl b) = .bl b := (rfl)
@[simp] theorem d_int (i : Int) : deref st (.int i) = .int i := (rfl)
@[simp] theorem d_str (s : List Nat) : deref st (.str s) = .str s := (rfl)
@[simp] theorem d_tup (xs : List PV) : deref st (.tup xs) = .tup xs := (rfl)
@[simp] theorem d_lst (xs : List PV) : deref st (.lst xs) = .lst xs := (rfl)
@[simp] theorem d_scr (ns : List Int) : deref st (.scr ns) = .scr ns := (rfl)
@[simp] theorem ds_nil : derefs st [] = [] := (rfl)
@[simp] theorem ds_cons (x : PV) (xs : List PV) : derefs st (x :: xs) = deref st x :: derefs st xs := (rfl)
@[simp] theorem k_call (f : Nat) (vs : List PV) : kCall cf f (.ok vs st) = cf f vs st := (rfl)
@[simp] theorem k_bi (b : Bi) (vs : List PV) : kBi b (.ok vs st) = .ofO (biV b (derefs st vs)) st := (rfl)
@[simp] theorem k_cons (p : PXs) (x : PV) : kCons cf p e (.ok x st) = kCons2 x (evs cf p e st) := (rfl)
@[simp] theorem k_cons2 (x : PV) (xs : List PV) : kCons2 x (.ok xs st) = .ok (x :: xs) st := (rfl)
@[simp] theorem k_andt (p : PXs) : kBop cf .And p e (.ok (.bl true) st) = evB cf .And p e st := (rfl)
@[simp] theorem k_andf (p : PXs) : kBop cf .And p e (.ok (.bl false) st) = .ok (.bl false) st := (rfl)
@[simp] theorem k_ort (p : PXs) : kBop cf .Or p e (.ok (.bl true) st) = .ok (.bl true) st := (rfl)
@[simp] theorem k_orf (p : PXs) : kBop cf .Or p e (.ok (.bl false) st) = evB cf .Or p e st := (rfl)
@[simp] theorem k_tru (x : PV) : kTru (.ok x st) = .ofO (truV (deref st x)) st := (rfl)
@[simp] theorem k_tc (op : PySem.CmpOp) (b : PX) (x : PV) : kTc cf op b e (.ok x st) = kTc2 op x (ev cf b e st) := (rfl)
@[simp] theorem k_tc2 (op : PySem.CmpOp) (x y : PV) : kTc2 op x (.ok y st) = .ofO (cmpV op (deref st x) (deref st y)) st := (rfl)
@[simp] theorem k_tn (op op' : PySem.CmpOp) (b c : PX) (x : PV) : kTn cf op op' b c e (.ok x st) = kTn2 cf op op' c e x (ev cf b e st) := (rfl)
@[simp] theorem k_tn2 (op op' : PySem.CmpOp) (c : PX) (x y : PV) : kTn2 cf op op' c e x (.ok y st) = kTn3 cf op' c e y (.ofO (cmpV op (deref st x) (deref st y)) st) := (rfl)
@[simp] theorem k_tn3t (op' : PySem.CmpOp) (c : PX) (y : PV) : kTn3 cf op' c e y (.ok true st) = kTn4 op' y (ev cf c e st) := (rfl)
@[simp] theorem k_tn3f (op' : PySem.CmpOp) (c : PX) (y : PV) : kTn3 cf op' c e y (.ok false st) = .ok false st := (rfl)
@[simp] theorem k_tn4 (op' : PySem.CmpOp) (y z : PV) : kTn4 op' y (.ok z st) = .ofO (cmpV op' (deref st y) (deref st z)) st := (rfl)
@[simp] theorem k_tnt (b : Bool) : kTnt (.ok b st) = .ok (!b) st := (rfl)
@[simp] theorem k_tandt (p : PTs) : kTb cf .And p e (.ok true st) = evBT cf .And p e st := (rfl)
@[simp] theorem k_tandf (p : PTs) : kTb cf .And p e (.ok false st) = .ok false st := (rfl)
@[simp] theorem k_tort (p : PTs) : kTb cf .Or p e (.ok true st) = .ok true st := (rfl)
@[simp] theorem k_torf (p : PTs) : kTb cf .Or p e (.ok false st) = evBT cf .Or p e st := (rfl)
@[simp] theorem k_o (x : PV) : kO (.ok x st) = .ofO (ivO x) st := (rfl)
@[simp] theorem k_seqI (x : PV) : kSeqI (.ok x st) = .ofO (itV x) st := (rfl)
@[simp] theorem k_rng (vs : List PV) : kRng (.ok vs st) = .ofO (rngV vs) st := (rfl)
@[simp] theorem k_enum (x : PV) : kEnum (.ok x st) = .ofO ((itV x).map (enumL 0)) st := (rfl)
@[simp] theorem k_zip (b : PX) (x : PV) : kZip cf b e (.ok x st) = kZip2 x (ev cf b e st) := (rfl)
@[simp] theorem k_zip2 (x y : PV) : kZip2 x (.ok y st) = .ofO ((itV x).bind fun xs => (itV y).map fun ys => zipL xs ys) st := (rfl)
@[simp] theorem compF_eq (t : Tg) (c : PT) (el : PX) (x : PV) : compF cf t c el e x st = kCf cf c el st (asgT t x e) := (rfl)
@[simp] theorem k_cf (c : PT) (el : PX) (e1 : Env) : kCf cf c el st (some e1) = kCf2 cf el e1 (evT cf c e1 st) := (rfl)
@[simp] theorem k_cf2t (el : PX) : kCf2 cf el e (.ok true st) = kEl (ev cf el e st) := (rfl)
@[simp] theorem k_cf2f (el : PX) : kCf2 cf el e (.ok false st) = .ok none st := (rfl)
@[simp] theorem k_el (v : PV) : kEl (.ok v st) = .ok (some v) st := (rfl)
@[simp] theorem k_compE (vs : List PV) : kCompE (.ok vs st) = .ok (.lst vs) st := (rfl)
@[simp] theorem k_comp (t : Tg) (c : PT) (el : PX) (items : List PV) : kComp cf t c el e (.ok items st) = if items.length ≤ SZ then kCompE (compL (compF cf t c el e) items st) else .stuck := (rfl)
@[simp] theorem k_seqn (b : PS) : kSeq cf b (.next e st) = run cf b e st := (rfl)
@[simp] theorem k_seqb (b : PS) : kSeq cf b (.brk e st) = .brk e st := (rfl)
@[simp] theorem k_seqc (b : PS) : kSeq cf b (.cnt e st) = .cnt e st := (rfl)
@[simp] theorem k_seqr (b : PS) (v : PV) : kSeq cf b (.ret v st) = .ret v st := (rfl)
@[simp] theorem k_seqx (b : PS) (c : Nat) : kSeq cf b (.exc c e st) = .exc c e st := (rfl)
@[simp] theorem k_asg (t : Tg) (v : PV) : kAsg t e (.ok v st) = kAsg2 st (asgT t v e) := (rfl)
@[simp] theorem k_asg2 : kAsg2 st (some e) = .next e st := (rfl)
@[simp] theorem k_par (is : List Nat) (vs : List PV) : kPar is e (.ok vs st) = kAsg2 st (setAll is vs e) := (rfl)
@[simp] theorem k_exp (v : PV) : kExp e (.ok v st) = .next e st := (rfl)
@[simp] theorem k_ret (v : PV) : kRet e (.ok v st) = .ret v st := (rfl)
@[simp] theorem k_itet (a b : PS) : kIte cf a b e (.ok true st) = run cf a e st := (rfl)
@[simp] theorem k_itef (a b : PS) : kIte cf a b e (.ok false st) = run cf b e st := (rfl)
@[simp] theorem k_for (t : Tg) (b : PS) (items : List PV) : kFor cf t b e (.ok items st) = forL (forF cf t b) items e st := (rfl)
@[simp] theorem forF_eq (t : Tg) (b : PS) (x : PV) : forF cf t b x e st = kFor2 cf b st (asgT t x e) := (rfl)
@[simp] theorem k_for2 (b : PS) : kFor2 cf b st (some e) = run cf b e st := (rfl)
@[simp] theorem get_z {α : Type} (a : α) (l : List α) : (a :: l)[0]? = some a := (rfl)
@[simp] theorem k_frz (p : PS) (i l : Nat) : kFrz cf p i e st (some (some (.ref l))) = kFrz2 cf p i e st l st[l]? := (rfl)
@[simp] theorem k_frz2 (p : PS) (i l : Nat) (xs : List PV) : kFrz2 cf p i e st l (some (.lst xs)) = run cf p (e.set i (some (.lst xs))) (st.set l .dead) := (rfl)
@[simp] theorem k_fnr (v : PV) : kFn st (.ret v st) = .ok v st := fin_same st v
@[simp] theorem k_fnn : kFn st (.next e st) = .ok .non st := fin_same st .non
theorem k_fnA {cs : Sto} {v : PV} (h : v.under st.length = true) : kFn st (.ret v (st ++ cs)) = .ok v st := fin_app st cs v h
@[simp] theorem k_fnx (c : Nat) : kFn st (.exc c e st) = .exc c st := finX_same st c
end
@[simp] theorem ofO_some {α : Type} (a : α) (st : Sto) : Res.ofO (some a) st = .ok a st := (rfl)
@[simp] theorem ofO_ite {α : Type} (c : Prop) [Decidable c] (a : Option α) (st : Sto) (h : c) : Res.ofO (if c then a else none) st = .ofO a st := by rw [if_pos h]
@[simp] theorem b_add {a b : PV} : binV .Add a b = addV a b := (rfl)
@[simp] theorem b_sub {a b : PV} : binV .Sub a b = subV a b := (rfl)
@[simp] theorem b_mul {a b : PV} : binV .Mult a b = mulV a b := (rfl)
@[simp] theorem b_fdiv {a b : PV} : binV .FloorDiv a b = fdivV a b := (rfl)
@[simp] theorem b_mod {a b : PV} : binV .Mod a b = modV a b := (rfl)
@[simp] theorem add_ii (i j : Int) : addV (.int i) (.int j) = some (.int (i + j)) := (rfl)
@[simp] theorem add_ss (a b : List Nat) : addV (.str a) (.str b) = if a.length + b.length ≤ SZ then some (.str (a ++ b)) else none := (rfl)
@[simp] theorem add_tt (a b : List PV) : addV (.tup a) (.tup b) = if a.length + b.length ≤ SZ then some (.tup (a ++ b)) else none := (rfl)
@[simp] theorem add_ll (a b : List PV) : addV (.lst a) (.lst b) = if a.length + b.length ≤ SZ then some (.lst (a ++ b)) else none := (rfl)
@[simp] theorem sub_ii (i j : Int) : subV (.int i) (.int j) = some (.int (i - j)) := (rfl)
@[simp] theorem mul_ii (i j : Int) : mulV (.int i) (.int j) = if small64 i || small64 j then some (.int (i * j)) else none := (rfl)
@[simp] theorem fdiv_ii (i j : Int) : fdivV (.int i) (.int j) = if 0 < j ∧ j < 1073741824 then some (.int (i / j)) else none := (rfl)
@[simp] theorem mod_ii (i j : Int) : modV (.int i) (.int j) = if 0 < j then some (.int (i % j)) else none := (rfl)
@[simp] theorem c_eq {a b : PV} : cmpV .Eq a b = eqV a b := (rfl)
@[simp] theorem c_ne {a b : PV} : cmpV .NotEq a b = (eqV a b).map (!·) := (rfl)
@[simp] theorem c_lt {a b : PV} : cmpV .Lt a b = ltS a b := (rfl)
@[simp] theorem c_le {a b : PV} : cmpV .LtE a b = leS a b := (rfl)
@[simp] theorem c_gt {a b : PV} : cmpV .Gt a b = ltV b a := (rfl)
@[simp] theorem c_ge {a b : PV} : cmpV .GtE a b = leV b a := (rfl)
@[simp] theorem c_is {a b : PV} : cmpV .Is a b = isV a b := (rfl)
@[simp] theorem c_isnot {a b : PV} : cmpV .IsNot a b = (isV a b).map (!·) := (rfl)
@[simp] theorem c_in {a b : PV} : cmpV .In a b = inV a b := (rfl)
@[simp] theorem c_notin {a b : PV} : cmpV .NotIn a b = (inV a b).map (!·) := (rfl)
@[simp] theorem eq_ii (i j : Int) : eqV (.int i) (.int j) = some (decide (i = j)) := (rfl)
@[simp] theorem eq_ss (a b : List Nat) : eqV (.str a) (.str b) = some (decide (a = b)) := (rfl)
@[simp] theorem lt_ii (i j : Int) : ltV (.int i) (.int j) = some (decide (i < j)) := (rfl)
@[simp] theorem ls_ii (i j : Int) : ltS (.int i) (.int j) = some (decide (i < j)) := (rfl)
@[simp] theorem le_ii (i j : Int) : leV (.int i) (.int j) = some (decide (i ≤ j)) := (rfl)
@[simp] theorem leS_ii (i j : Int) : leS (.int i) (.int j) = some (decide (i ≤ j)) := (rfl)
@[simp] theorem leS_ss (a b : List Nat) : leS (.str a) (.str b) = some (!decide (b < a)) := (rfl)
@[simp] theorem is_nn : isV .non .non = some true := (rfl)
@[simp] theorem is_tn (xs : List PV) : isV (.tup xs) .non = some false := (rfl)
@[simp] theorem is_ln (xs : List PV) : isV (.lst xs) .non = some false := (rfl)
@[simp] theorem is_in (i : Int) : isV (.int i) .non = some false := (rfl)
@[simp] theorem is_sn (s : List Nat) : isV (.str s) .non = some false := (rfl)
@[simp] theorem is_bn (b : Bool) : isV (.bl b) .non = some false := (rfl)
@[simp] theorem is_bb (a b : Bool) : isV (.bl a) (.bl b) = some (decide (a = b)) := (rfl)
@[simp] theorem in_cs (c : Nat) (t : List Nat) : inV (.str [c]) (.str t) = some (decide (c ∈ t)) := (rfl)
@[simp] theorem in_stup (s : List Nat) (xs : List PV) : inV (.str s) (.tup xs) = (strsV xs).map fun ts => decide (s ∈ ts) := by
  rcases s with _ | ⟨c, _ | ⟨d, r⟩⟩ <;> rfl
@[simp] theorem in_slst (s : List Nat) (xs : List PV) : inV (.str s) (.lst xs) = (strsV xs).map fun ts => decide (s ∈ ts) := by
  rcases s with _ | ⟨c, _ | ⟨d, r⟩⟩ <;> rfl
@[simp] theorem strs_nil : strsV [] = some [] := (rfl)
@[simp] theorem strs_cons (s : List Nat) (r : List PV) : strsV (.str s :: r) = (strsV r).map (s :: ·) := (rfl)
@[simp] theorem r_nev {cf : CF} {e : Env} {st : Sto} : run cf .nev e st = .stuck := by simp only [run]
@[simp] theorem tru_bl (b : Bool) : truV (.bl b) = some b := (rfl)
@[simp] theorem tru_non : truV .non = some false := (rfl)
@[simp] theorem tru_lst (xs : List PV) : truV (.lst xs) = some (!xs.isEmpty) := (rfl)
@[simp] theorem tru_tup (xs : List PV) : truV (.tup xs) = some (!xs.isEmpty) := (rfl)
@[simp] theorem tru_str (s : List Nat) : truV (.str s) = some (!s.isEmpty) := (rfl)
@[simp] theorem at_t (xs : List PV) (i : Int) : atV (.tup xs) (.int i) = L2.atI xs i := (rfl)
@[simp] theorem at_l (xs : List PV) (i : Int) : atV (.lst xs) (.int i) = L2.atI xs i := (rfl)
@[simp] theorem at_s (xs : List Nat) (i : Int) : atV (.str xs) (.int i) = (L2.atI xs i).map fun c => .str [c] := (rfl)
@[simp] theorem at_c (xs : List Int) (i : Int) : atV (.scr xs) (.int i) = (L2.atI xs i).map .int := (rfl)
@[simp] theorem atI_0 {α : Type} (x : α) (r : List α) : L2.atI (x :: r) 0 = some x := by simp [L2.atI, L2.ixN]
@[simp] theorem atI_1 {α : Type} (x y : α) (r : List α) : L2.atI (x :: y :: r) 1 = some y := by
  have : (1 : Int) < (r.length : Int) + 1 + 1 := by omega
  simp [L2.atI, L2.ixN, this]
@[simp] theorem atI_2 {α : Type} (x y z : α) (r : List α) : L2.atI (x :: y :: z :: r) 2 = some z := by
  have : (2 : Int) < (r.length : Int) + 1 + 1 + 1 := by omega
  simp [L2.atI, L2.ixN, this]
@[simp] theorem atI_3 {α : Type} (x y z u : α) (r : List α) : L2.atI (x :: y :: z :: u :: r) 3 = some u := by
  have : (3 : Int) < (r.length : Int) + 1 + 1 + 1 + 1 := by omega
  simp [L2.atI, L2.ixN, this]
theorem atI_nat {α : Type} {xs : List α} {i : Nat} {v : α} (h : xs[i]? = some v) : L2.atI xs (i : Int) = some v := L2.atI_nat h
@[simp] theorem sl_t (xs : List PV) (lo hi : Option Int) : slV (.tup xs) lo hi = some (.tup (cutL xs lo hi)) := (rfl)
@[simp] theorem sl_l (xs : List PV) (lo hi : Option Int) : slV (.lst xs) lo hi = some (.lst (cutL xs lo hi)) := (rfl)
@[simp] theorem sl_s (xs : List Nat) (lo hi : Option Int) : slV (.str xs) lo hi = some (.str (cutL xs lo hi)) := (rfl)
@[simp] theorem ivO_int (i : Int) : ivO (.int i) = some (some i) := (rfl)
theorem cut_from {α : Type} (xs : List α) (k : Nat) : cutL xs (some (k : Int)) none = xs.drop k := by
  unfold cutL HT.sIx
  have : ¬ ((k : Int) < 0) := by omega
  simp only [this, if_false, Int.toNat_natCast]
  by_cases h : k ≤ xs.length
  · rw [Nat.min_eq_left h]
    exact List.take_of_length_le (by rw [List.length_drop]; omega)
  · rw [Nat.min_eq_right (by omega), List.drop_length, List.drop_eq_nil_of_le (by omega)]; simp
@[simp] theorem cut_from1 {α : Type} (xs : List α) : cutL xs (some 1) none = xs.drop 1 := cut_from xs 1
@[simp] theorem cut_from2 {α : Type} (xs : List α) : cutL xs (some 2) none = xs.drop 2 := cut_from xs 2
@[simp] theorem it_t (xs : List PV) : itV (.tup xs) = some xs := (rfl)
@[simp] theorem it_l (xs : List PV) : itV (.lst xs) = some xs := (rfl)
@[simp] theorem it_s (s : List Nat) : itV (.str s) = some (s.map fun c => .str [c]) := (rfl)
@[simp] theorem bi_len (as : List PV) : biV .len as = bLen as := (rfl)
@[simp] theorem bi_max1 (as : List PV) : biV .max1 as = bMax1 as := (rfl)
@[simp] theorem bi_min1 (as : List PV) : biV .min1 as = bMin1 as := (rfl)
@[simp] theorem bi_max2 (as : List PV) : biV .max2 as = bMax2 as := (rfl)
@[simp] theorem bi_min2 (as : List PV) : biV .min2 as = bMin2 as := (rfl)
@[simp] theorem bi_sum (as : List PV) : biV .sum as = bSum as := (rfl)
@[simp] theorem bi_tuple (as : List PV) : biV .tuple as = bTuple as := (rfl)
@[simp] theorem bi_list (as : List PV) : biV .list as = bList as := (rfl)
@[simp] theorem bi_all (as : List PV) : biV .all as = bAll as := (rfl)
@[simp] theorem bi_any (as : List PV) : biV .any as = bAny as := (rfl)
@[simp] theorem bi_int (as : List PV) : biV .int as = bInt as := (rfl)
@[simp] theorem len_s (s : List Nat) : bLen [.str s] = some (.int s.length) := (rfl)
@[simp] theorem len_t (s : List PV) : bLen [.tup s] = some (.int s.length) := (rfl)
@[simp] theorem len_l (s : List PV) : bLen [.lst s] = some (.int s.length) := (rfl)
@[simp] theorem len_c (s : List Int) : bLen [.scr s] = some (.int s.length) := (rfl)
@[simp] theorem tuple_l (s : List PV) : bTuple [.lst s] = some (.tup s) := (rfl)
@[simp] theorem tuple_t (s : List PV) : bTuple [.tup s] = some (.tup s) := (rfl)
@[simp] theorem list_l (s : List PV) : bList [.lst s] = some (.lst s) := (rfl)
@[simp] theorem list_t (s : List PV) : bList [.tup s] = some (.lst s) := (rfl)
@[simp] theorem max2_ii (i j : Int) : bMax2 [.int i, .int j] = some (.int (max i j)) := by
  simp only [bMax2]
  by_cases h : j > i
  · rw [if_pos h, Int.max_eq_right (by omega)]
  · rw [if_neg h, Int.max_eq_left (by omega)]
@[simp] theorem min2_ii (i j : Int) : bMin2 [.int i, .int j] = some (.int (min i j)) := by
  simp only [bMin2]
  by_cases h : j < i
  · rw [if_pos h, Int.min_eq_right (by omega)]
  · rw [if_neg h, Int.min_eq_left (by omega)]
theorem intsV_map {α : Type} (f : α → Int) : ∀ l : List α, intsV (l.map fun a => .int (f a)) = some (l.map f)
  | [] => rfl
  | a :: l => by simp [intsV, intsV_map f l]
@[simp] theorem sum_map {α : Type} (f : α → Int) (l : List α) : bSum [.lst (l.map fun a => .int (f a))] = some (.int (l.map f).sum) := by simp [bSum, intsV_map]
@[simp] theorem fz_tup (xs : List PV) (st : Sto) : fzV (.tup xs) st = .ok (.tup xs) st := (rfl)
@[simp] theorem get_cat (st cs : Sto) : (st ++ cs)[st.length]? = cs[0]? := by rw [List.getElem?_append_right (Nat.le_refl _)]; simp
@[simp] theorem get_cat1 (st cs : Sto) (k : Nat) : (st ++ cs)[st.length + k]? = cs[k]? := by rw [List.getElem?_append_right (Nat.le_add_right _ _)]; simp
@[simp] theorem set_cat (st cs : Sto) (d : Cell) : (st ++ cs).set st.length d = st ++ cs.set 0 d := by rw [List.set_append_right _ _ (Nat.le_refl _)]; simp
@[simp] theorem set_cat1 (st cs : Sto) (k : Nat) (d : Cell) : (st ++ cs).set (st.length + k) d = st ++ cs.set k d := by rw [List.set_append_right _ _ (Nat.le_add_right _ _)]; simp
@[simp] theorem live_cat (st : Sto) (xs : List PV) (cs : Sto) : liveL (.ref st.length) (st ++ .lst xs :: cs) = true := by simp [liveL]
@[simp] theorem deref_cat (st : Sto) (xs : List PV) (cs : Sto) : deref (st ++ .lst xs :: cs) (.ref st.length) = .lst xs := by simp [deref]
@[simp] theorem fz_cat (st : Sto) (xs : List PV) (cs : Sto) : fzV (.ref st.length) (st ++ .lst xs :: cs) = .ok (.lst xs) (st ++ .dead :: cs) := by simp [fzV]
@[simp] theorem app_cat (st : Sto) (xs : List PV) (cs : Sto) (v : PV) : mthV .append (.ref st.length) [v] (st ++ .lst xs :: cs) = if xs.length < SZ then .ok .non (st ++ .lst (xs ++ [v]) :: cs) else .stuck := by simp [mthV]
@[simp] theorem ext_cat (st : Sto) (xs ys : List PV) (cs : Sto) : mthV .extend (.ref st.length) [.lst ys] (st ++ .lst xs :: cs) = if xs.length + ys.length ≤ SZ then .ok .non (st ++ .lst (xs ++ ys) :: cs) else .stuck := by simp [mthV]
@[simp] theorem pop0_cat (st : Sto) (x : PV) (xs : List PV) (cs : Sto) : mthV .pop (.ref st.length) [.int 0] (st ++ .lst (x :: xs) :: cs) = .ok x (st ++ .lst xs :: cs) := by
  have h : L2.ixN (x :: xs).length 0 = some 0 := by simp [L2.ixN]
  simp only [mthV, get_cat, List.getElem?_cons_zero, h, set_cat, List.set_cons_zero, List.eraseIdx_cons_zero]
@[simp] theorem isi_1 (v : PV) (t : Ty) : isiV v [t] = isiB v t := (rfl)
@[simp] theorem isi_2 (v : PV) (t u : Ty) : isiV v [t, u] = (isiB v t).bind fun a => (isiB v u).map fun b => a || b := (rfl)
@[simp] theorem isi_int (i : Int) (t : Ty) : isiB (.int i) t = some (decide (t = .int)) := (rfl)
@[simp] theorem isi_bl (i : Bool) (t : Ty) : isiB (.bl i) t = some (decide (t = .bool) || decide (t = .int)) := (rfl)
@[simp] theorem isi_str (i : List Nat) (t : Ty) : isiB (.str i) t = some (decide (t = .str)) := (rfl)
@[simp] theorem isi_tup (i : List PV) (t : Ty) : isiB (.tup i) t = some (decide (t = .tuple)) := (rfl)
@[simp] theorem isi_non (t : Ty) : isiB .non t = some false := (rfl)
@[simp] theorem isi_lst (i : List PV) (t : Ty) : isiB (.lst i) t = some false := (rfl)
@[simp] theorem asg_nm (i : Nat) (v : PV) (e : Env) : asgT (.nm i) v e = some (e.set i (some v)) := by simp only [asgT]
@[simp] theorem asg_tpt (ts : Tgs) (vs : List PV) (e : Env) : asgT (.tp ts) (.tup vs) e = asgTs ts vs e := by simp only [asgT]
@[simp] theorem asg_tpl (ts : Tgs) (vs : List PV) (e : Env) : asgT (.tp ts) (.lst vs) e = asgTs ts vs e := by simp only [asgT]
@[simp] theorem asgs_nil (e : Env) : asgTs .nil [] e = some e := by simp only [asgTs]
@[simp] theorem asgs_cons (t : Tg) (r : Tgs) (v : PV) (vs : List PV) (e : Env) : asgTs (.cons t r) (v :: vs) e = (asgT t v e).bind fun e' => asgTs r vs e' := by simp only [asgTs]
@[simp] theorem setAll_nil (e : Env) : setAll [] [] e = some e := (rfl)
@[simp] theorem setAll_cons (i : Nat) (is : List Nat) (v : PV) (vs : List PV) (e : Env) : setAll (i :: is) (v :: vs) e = setAll is vs (e.set i (some v)) := (rfl)
@[simp] theorem wipeR_nil (e : Env) : wipeR e [] = e := (rfl)
@[simp] theorem wipeR_cons (e : Env) (v : Nat) (vs : List Nat) : wipeR e (v :: vs) = (wipeR e vs).set v none := (rfl)
noncomputable def kCl2 (o : Option PV) (r : Res (List PV)) : Res (List PV) := r.bind fun xs st => .ok (o.toList ++ xs) st
noncomputable def kCl (f : PV → Sto → Res (Option PV)) (xs : List PV) (r : Res (Option PV)) : Res (List PV) := r.bind fun o st => kCl2 o (compL f xs st)
@[simp] theorem compL_nil (f : PV → Sto → Res (Option PV)) (st : Sto) : compL f [] st = .ok [] st := (rfl)
@[simp] theorem compL_cons (f : PV → Sto → Res (Option PV)) (x : PV) (xs : List PV) (st : Sto) : compL f (x :: xs) st = kCl f xs (f x st) := (rfl)
@[simp] theorem k_cl (f : PV → Sto → Res (Option PV)) (xs : List PV) (o : Option PV) (st : Sto) : kCl f xs (.ok o st) = kCl2 o (compL f xs st) := (rfl)
@[simp] theorem k_cl2 (o : Option PV) (xs : List PV) (st : Sto) : kCl2 o (.ok xs st) = .ok (o.toList ++ xs) st := (rfl)
noncomputable def kFl (f : PV → Env → Sto → Out) (xs : List PV) : Out → Out
  | .next e st => forL f xs e st
  | .cnt e st => forL f xs e st
  | .brk e st => .next e st
  | .ret v st => .ret v st
  | .exc c e st => .exc c e st
  | .stuck => .stuck
@[simp] theorem forL_nil (f : PV → Env → Sto → Out) (e : Env) (st : Sto) : forL f [] e st = .next e st := (rfl)
@[simp] theorem forL_cons (f : PV → Env → Sto → Out) (x : PV) (xs : List PV) (e : Env) (st : Sto) : forL f (x :: xs) e st = kFl f xs (f x e st) := by
  rw [forL]
  cases f x e st <;> rfl
@[simp] theorem k_fln (f : PV → Env → Sto → Out) (xs : List PV) (e : Env) (st : Sto) : kFl f xs (.next e st) = forL f xs e st := (rfl)
@[simp] theorem k_flc (f : PV → Env → Sto → Out) (xs : List PV) (e : Env) (st : Sto) : kFl f xs (.cnt e st) = forL f xs e st := (rfl)
@[simp] theorem k_flb (f : PV → Env → Sto → Out) (xs : List PV) (e : Env) (st : Sto) : kFl f xs (.brk e st) = .next e st := (rfl)
@[simp] theorem k_flr (f : PV → Env → Sto → Out) (xs : List PV) (v : PV) (st : Sto) : kFl f xs (.ret v st) = .ret v st := (rfl)
theorem comp_map {α : Type} {f : PV → Sto → Res (Option PV)} {st : Sto} (g h : α → PV) : ∀ (items : List α), (∀ a ∈ items, f (g a) st = .ok (some (h a)) st) → compL f (items.map g) st = .ok (items.map h) st
  | [], _ => rfl
  | a :: r, H => by
    rw [List.map_cons, compL, H a (by simp), Res.bind_ok, comp_map g h r fun b hb => H b (by simp [hb])]
    rfl
theorem comp_filter {α : Type} {f : PV → Sto → Res (Option PV)} {st : Sto} (g h : α → PV) (p : α → Bool) : ∀ (items : List α), (∀ a ∈ items, f (g a) st = .ok (if p a then some (h a) else none) st) → compL f (items.map g) st = .ok ((items.filter p).map h) st
  | [], _ => rfl
  | a :: r, H => by
    rw [List.map_cons, compL, H a (by simp), Res.bind_ok, comp_filter g h p r fun b hb => H b (by simp [hb])]
    cases q : p a <;> simp [q, Res.bind_ok]
theorem for_inv {f : PV → Env → Sto → Out} {st : Sto} (Inv : Env → Prop) : ∀ (items : List PV) (e : Env), Inv e → (∀ x ∈ items, ∀ e, Inv e → ∃ e', f x e st = .next e' st ∧ Inv e') → ∃ e', forL f items e st = .next e' st ∧ Inv e'
  | [], e, h, _ => ⟨e, rfl, h⟩
  | x :: r, e, h, H => by
    obtain ⟨e1, q1, h1⟩ := H x (by simp) e h
    obtain ⟨e2, q2, h2⟩ := for_inv Inv r e1 h1 fun y hy => H y (by simp [hy])
    exact ⟨e2, by rw [forL, q1]; exact q2, h2⟩
theorem rngL_map (lo c : Int) (n : Nat) : rngL lo c n = (List.range n).map fun (i : Nat) => .int (lo + (i : Int) * c) := rfl
@[simp] theorem rng_1 (n : Int) : rngV [.int n] = if small62 n then some (rngL 0 1 n.toNat) else none := (rfl)
@[simp] theorem rng_2 (a b : Int) : rngV [.int a, .int b] = if small62 a && small62 b then some (rngL a 1 (b - a).toNat) else none := (rfl)
theorem SZ_val : SZ = 16777216 := rfl
end PL

namespace SM
open PL
theorem enc_tup (s : Sm) : ∃ xs, enc s = .tup xs := by
  cases s with
  | nd k ps =>
    rw [enc_nd]
    cases k <;> exact ⟨_, rfl⟩
@[simp] theorem d_enc (st : Sto) (s : Sm) : deref st (enc s) = enc s := by
  obtain ⟨xs, e⟩ := enc_tup s
  rw [e]; rfl
@[simp] theorem d_encB (st : Sto) (b : Bx) : deref st (encB b) = encB b := (rfl)
structure KpT (T : Tab) : Prop where
  kind : T.lookup 20 = some Fn.f_kind
  parts : T.lookup 21 = some Fn.f_parts
structure BoxT (T : Tab) : Prop extends KpT T where
  rows_of : T.lookup 35 = some Fn.f_rows_of
  box_or_none : T.lookup 36 = some Fn.f_box_or_none
  columns : T.lookup 37 = some Fn.f_columns
  heights : T.lookup 38 = some Fn.f_heights
  table_box : T.lookup 39 = some Fn.f_table_box
  box : T.lookup 40 = some Fn.f_box
section
variable {T : Tab}
theorem kind_ok (h : KpT T) (n : Nat) (v : PV) (vs : List PV) (st : Sto) : callF T (n + 1) 20 [.tup (v :: vs)] st = .ok v st := by
  rw [callF_of h.kind]
  simp [runD, Fn.f_kind, start, fin_same]
/-- the first of it, its word -/
theorem enc_cons (s : Sm) : ∃ vs, enc s = .tup (.str s.kd.name :: vs) := by
  cases s with
  | nd k ps =>
    rw [enc_nd]
    cases k <;> exact ⟨_, rfl⟩
theorem kindS (h : KpT T) (n : Nat) (s : Sm) (st : Sto) : callF T (n + 1) 20 [enc s] st = .ok (.str s.kd.name) st := by
  obtain ⟨vs, e⟩ := enc_cons s
  rw [e, kind_ok h]
theorem len2 {α : Type} {l : List α} (h : l.length = 2) : ∃ a b, l = [a, b] := by
  rcases l with _ | ⟨a, _ | ⟨b, _ | ⟨c, r⟩⟩⟩ <;> simp at h
  exact ⟨a, b, rfl⟩
theorem len1 {α : Type} {l : List α} (h : l.length = 1) : ∃ a, l = [a] := by
  rcases l with _ | ⟨a, _ | ⟨b, r⟩⟩ <;> simp at h
  exact ⟨a, rfl⟩
theorem len3 {α : Type} {l : List α} (h : l.length = 3) : ∃ a b c, l = [a, b, c] := by
  rcases l with _ | ⟨a, _ | ⟨b, _ | ⟨c, _ | ⟨d, r⟩⟩⟩⟩ <;> simp at h
  exact ⟨a, b, c, rfl⟩
theorem lenS {α : Type} {l : List α} {n : Nat} (h : l.length = n + 1) : ∃ a r, l = a :: r ∧ r.length = n := by
  cases l with
  | nil => simp at h
  | cons a r => exact ⟨a, r, rfl, by simpa using h⟩
theorem pairs_length {ss : List (List Nat)} {vs : List PV} (h : vs.length = ss.length) : (pairs ss vs).length = ss.length := by
  unfold pairs
  simp [h]
theorem zip_snd {α β : Type} : ∀ {l : List α} {m : List β}, m.length = l.length → (l.zip m).map (·.2) = m
  | [], [], _ => rfl
  | [], _ :: _, h => by simp at h
  | _ :: _, [], h => by simp at h
  | a :: l, b :: m, h => by simp [zip_snd (l := l) (m := m) (by simpa using h)]
@[simp] theorem is_enc (s : Sm) : isV (enc s) .non = some false := by
  obtain ⟨vs, e⟩ := enc_cons s
  rw [e]; rfl
theorem forT {α : Type} (rows : List (List α)) (g : α → PV) (cf : CF) (a b : Option PV) (y z : Option PV) (st : Sto) : ∀ (acc : List PV) (x : Option PV), acc.length + rows.flatten.length ≤ 16777216 →
    ∃ x', forL (forF cf (.nm 3) (.seq (.asg (.nm 2) (.bin .Add (.var 2) (.var 3))) .skip)) (rows.map fun r => .tup (r.map g)) [a, b, some (.tup acc), x, y, z] st = .next [a, b, some (.tup (acc ++ rows.flatten.map g)), x', y, z] st := by
  induction rows with
  | nil => intro acc x _; exact ⟨x, by simp⟩
  | cons r rs ih =>
    intro acc x hl
    simp only [List.flatten_cons, List.length_append] at hl
    obtain ⟨x', e⟩ := ih (acc ++ r.map g) (some (.tup (r.map g))) (by rw [List.length_append, List.length_map]; omega)
    refine ⟨x', ?_⟩
    have h1 : acc.length + r.length ≤ 16777216 := by omega
    simp [h1, SZ_val]
    simp at e
    rw [e]
theorem parts_ok (h : KpT T) (n : Nat) (s : Sm) (hs : Sh s) (st : Sto) : callF T (n + 2) 21 [enc s] st = .ok (.tup (s.ps.map enc)) st := by
  rw [callF_of h.parts, runD_of rfl]
  cases s with
  | nd k ps =>
    have sh := hs.kd
    have hl := hs.len
    rw [enc_nd]
    simp only [Sm.ps]
    cases k with
    | word t =>
      have : ps = [] := List.eq_nil_of_length_eq_zero sh
      subst this
      simp [Fn.f_parts, start, encK, kind_ok h, SZ_val]
    | over =>
      obtain ⟨a, b, rfl⟩ := len2 sh
      simp [Fn.f_parts, start, encK, kind_ok h, SZ_val]
    | root =>
      obtain ⟨a, rfl⟩ := len1 sh
      simp [Fn.f_parts, start, encK, kind_ok h, SZ_val]
    | held =>
      obtain ⟨a, rfl⟩ := len1 sh
      simp [Fn.f_parts, start, encK, kind_ok h, SZ_val]
    | script u d =>
      obtain ⟨hud, sh⟩ := sh
      cases u <;> cases d <;> simp at hud sh
      · obtain ⟨a, b, rfl⟩ := len2 sh
        simp [Fn.f_parts, start, encK, kind_ok h, SZ_val]
      · obtain ⟨a, b, rfl⟩ := len2 sh
        simp [Fn.f_parts, start, encK, kind_ok h, SZ_val]
      · obtain ⟨a, b, c, rfl⟩ := len3 sh
        simp [Fn.f_parts, start, encK, kind_ok h, SZ_val]
    | chain ss =>
      obtain ⟨a, r, rfl, hr⟩ := lenS sh
      simp only [List.length_cons] at hl
      have hz : (pairs ss (r.map enc)).length ≤ 16777216 := by rw [pairs_length (by simpa using hr)]; omega
      have hz2 : 1 + r.length ≤ 16777216 := by omega
      simp [Fn.f_parts, start, encK, kind_ok h, hz, SZ_val]
      unfold pairs
      rw [comp_map (fun (p : List Nat × PV) => .tup [.str p.1, p.2]) (fun p => p.2) _ (fun p _ => by simp)]
      simp [zip_snd (l := ss) (m := r.map enc) (by simpa using hr), hz2, SZ_val]
    | table r c =>
      obtain ⟨h1, h2, h3⟩ := sh
      have hf : (chunk r c ps).flatten = ps := chunk_flatten r c ps h3
      have hlen : (chunk r c (ps.map enc)).length ≤ 16777216 := by
        rw [chunk_length]
        have : r * 1 ≤ r * c := Nat.mul_le_mul_left r h2
        omega
      obtain ⟨x', e⟩ := forT (chunk r c ps) enc (callF T (n + 1)) (some (.tup [.str [116, 97, 98, 108, 101], .tup ((chunk r c (ps.map enc)).map .tup)])) (some (.str [116, 97, 98, 108, 101])) none none st [] none (by rw [hf]; simp; omega)
      rw [hf] at e
      rw [chunk_map, List.map_map] at e
      simp [Fn.f_parts, start, encK, kind_ok h, SZ_val, chunk_map]
      simp [Function.comp_def] at e ⊢
      rw [e]
      simp
@[simp] theorem is_encB (b : Bx) : isV (encB b) .non = some false := (rfl)
end
end SM

namespace SM
open PL
noncomputable def isLt (c : Nat) : Bool := (decide (97 ≤ c) && decide (c ≤ 122)) || (decide (48 ≤ c) && decide (c ≤ 57))
noncomputable def signs : List (List Nat) := [[43], [45], [42], [61], [60]]
noncomputable def Sm.isChain : Sm → Bool
  | .nd (.chain _) _ => true
  | _ => false
noncomputable def Sm.isBase : Sm → Bool
  | .nd (.word _) _ => true
  | .nd .held _ => true
  | .nd (.table _ _) _ => true
  | _ => false
noncomputable def Kd.gd (k : Kd) (ps : List Sm) : Prop :=
  match k with
  | .word t => ps = [] ∧ 1 ≤ t.length ∧ t.length ≤ 6 ∧ ∀ c ∈ t, isLt c = true
  | .chain ss => ps.length = ss.length + 1 ∧ 1 ≤ ss.length ∧ ss.length ≤ 4 ∧ (∀ s ∈ ss, s ∈ signs) ∧ ∀ p ∈ ps, p.isChain = false
  | .over => ps.length = 2
  | .root => ps.length = 1
  | .held => ps.length = 1
  | .script u d => (u || d) = true ∧ ps.length = 1 + u.toNat + d.toNat ∧ ∀ p, ps.head? = some p → p.isBase = true
  | .table r c => (1 ≤ r ∧ r ≤ 3) ∧ (1 ≤ c ∧ c ≤ 3) ∧ ps.length = r * c
inductive Gd : Sm → Prop where
  | nd {k : Kd} {ps : List Sm} : k.gd ps → (∀ p ∈ ps, Gd p) → Gd (.nd k ps)
theorem Gd.kd {k : Kd} {ps : List Sm} (h : Gd (.nd k ps)) : k.gd ps := by cases h; assumption
theorem Gd.mem {k : Kd} {ps : List Sm} (h : Gd (.nd k ps)) : ∀ p ∈ ps, Gd p := by cases h; assumption
theorem Gd.sh {s : Sm} (h : Gd s) : Sh s := by
  induction s using Sm.ind with
  | h k ps ih =>
    have g := h.kd
    refine .nd ?_ ?_ fun p hp => ih p hp (h.mem p hp)
    · cases k with
      | word t => simp [Kd.sh, g.1]
      | chain ss => exact g.1
      | over => exact g
      | root => exact g
      | held => exact g
      | script u d => exact ⟨g.1, g.2.1⟩
      | table r c => exact ⟨g.1.1, g.2.1.1, g.2.2⟩
    · cases k with
      | word t => simp [g.1]
      | chain ss => have := g.1; have := g.2.2.1; omega
      | over => rw [show ps.length = 2 from g]; omega
      | root => rw [show ps.length = 1 from g]; omega
      | held => rw [show ps.length = 1 from g]; omega
      | script u d =>
        have := g.2.1
        cases u <;> cases d <;> simp at this <;> omega
      | table r c =>
        have h1 : r * c ≤ 3 * 3 := Nat.mul_le_mul g.1.2 g.2.1.2
        have := g.2.2
        omega

structure DrawT (T : Tab) : Prop where
  cell : T.lookup 7 = some Fn.f_law_cell
  mix : T.lookup 8 = some Fn.f_law_mix
  atom : T.lookup 9 = some Fn.f_law_atom
  base : T.lookup 10 = some Fn.f_law_base
  item : T.lookup 11 = some Fn.f_law_item
  draw : T.lookup 12 = some Fn.f_law_draw
noncomputable def cellI (ns : List Int) (k : Nat) : Int := ns.getD k 0
noncomputable def mixI (c p m : Int) : Int := (c * 48271 % p) * (c * 48271 % p + 7) % p % m
theorem mixI_nonneg {c p m : Int} (h : 0 < m) : 0 ≤ mixI c p m := Int.emod_nonneg _ (by omega)
theorem mixI_lt {c p m : Int} (h : 0 < m) : mixI c p m < m := Int.emod_lt_of_pos _ h
section
variable {T : Tab}
theorem cell_ok (h : DrawT T) (n : Nat) (ns : List Int) (k : Nat) (st : Sto) : callF T (n + 1) 7 [.scr ns, .int k] st = .ok (.int (cellI ns k)) st := by
  rw [callF_of h.cell, runD_of rfl]
  unfold cellI
  by_cases hk : k < ns.length
  · have e : ns[k]? = some ns[k] := List.getElem?_eq_getElem hk
    simp [Fn.f_law_cell, start, hk, atI_nat e]
  · simp [Fn.f_law_cell, start, hk]
theorem mix_ok (h : DrawT T) (n : Nat) (c p m : Int) (hp : 0 < p) (hp2 : p < 2 ^ 30) (hm : 0 < m) (st : Sto) : callF T (n + 1) 8 [.int c, .int p, .int m] st = .ok (.int (mixI c p m)) st := by
  rw [callF_of h.mix, runD_of rfl]
  have h1 := Int.emod_nonneg (c * 48271) (show p ≠ 0 by omega)
  have h2 := Int.emod_lt_of_pos (c * 48271) hp
  have s1 : small64 48271 = true := by decide
  have s2 : small64 (c * 48271 % p) = true := by
    unfold small64
    simp only [Bool.and_eq_true, decide_eq_true_eq]
    omega
  simp [Fn.f_law_mix, start, s1, s2, hp, hm, mixI]
theorem choice {α : Type} {P : Int → α → Prop} (h : ∀ c, ∃ a, P c a) : ∃ f : Int → α, ∀ c, P c (f c) := ⟨fun c => Classical.choose (h c), fun c => Classical.choose_spec (h c)⟩
theorem chunk_of {α : Type} : ∀ (rows : List (List α)) (c : Nat), (∀ row ∈ rows, row.length = c) → chunk rows.length c rows.flatten = rows
  | [], _, _ => rfl
  | row :: rows, c, h => by
    have h1 : row.length = c := h row (by simp)
    simp only [List.length_cons, chunk, List.flatten_cons]
    rw [List.take_left' h1, List.drop_left' h1, chunk_of rows c fun r hr => h r (by simp [hr])]
theorem flat_len {α : Type} : ∀ (rows : List (List α)) (c : Nat), (∀ row ∈ rows, row.length = c) → rows.flatten.length = rows.length * c
  | [], _, _ => by simp
  | row :: rows, c, h => by
    rw [List.flatten_cons, List.length_append, flat_len rows c fun r hr => h r (by simp [hr]), h row (by simp), List.length_cons, Nat.succ_mul, Nat.add_comm]
theorem dp_le {k : Kd} {ps : List Sm} {m : Nat} (h : ∀ p ∈ ps, dp p ≤ m) : dp (.nd k ps) ≤ m + 1 := by
  rw [dp_nd]
  have := maxN_le (l := ps.map dp) (m := m) fun n hn => by
    obtain ⟨p, hp, rfl⟩ := List.mem_map.mp hn
    exact h p hp
  omega
theorem small62_of {i : Int} (h1 : 0 ≤ i) (h2 : i < 1000000) : small62 i = true := by
  unfold small62
  simp only [Bool.and_eq_true, decide_eq_true_eq]
  omega
/-- the rows of a drawn table -/
theorem rowsLoop {cf : CF} {f : Int → Sm} {cell l : Int} {C : Nat} (hC : C ≤ 3) {w : Option PV} {st : Sto} (e : ∀ c, cf 12 [.int c, .int (min l 2)] st = .ok (enc (f c)) st) : ∀ (ks : List Nat) (acc : List (List Sm)) (x y : Option PV), acc.length + ks.length ≤ 1000 →
    ∃ x' y', forL (forF cf (.nm 5) (.seq (.asg (.nm 6) (.comp [7] (.nm 7) (.rng (.cons (.var 4) .nil)) .yes (.bin .Add (.bin .Add (.bin .Add (.bin .Mult (.var 0) (.cst (.int 3))) (.bin .Mult (.cst (.int 7)) (.var 5))) (.bin .Mult (.cst (.int 5)) (.var 7))) (.cst (.int 2)))))
            (.seq (.asg (.nm 3) (.bin .Add (.var 3) (.tup (.cons (.bi .tuple (.cons (.comp [8] (.nm 8) (.seq (.var 6)) .yes (.call 12 (.cons (.var 8) (.cons (.bi .min2 (.cons (.bin .Sub (.var 1) (.cst (.int 1))) (.cons (.cst (.int 2)) .nil))) .nil)))) .nil)) .nil)))) .skip)))
      (ks.map fun (k : Nat) => .int (k : Int)) [some (.int cell), some (.int (l + 1)), w, some (.tup (acc.map fun r => .tup (r.map enc))), some (.int (C : Int)), x, y, none, none] st =
      .next [some (.int cell), some (.int (l + 1)), w, some (.tup ((acc ++ ks.map fun (k : Nat) => (List.range C).map fun (j : Nat) => f (cell * 3 + 7 * (k : Int) + 5 * (j : Int) + 2)).map fun r => .tup (r.map enc))), some (.int (C : Int)), x', y', none, none] st
  | [], acc, x, y, _ => ⟨x, y, by simp⟩
  | k :: ks, acc, x, y, hl => by
    have s3 : small64 3 = true := by decide
    have s5 : small64 5 = true := by decide
    have s7 : small64 7 = true := by decide
    have sC : small62 (C : Int) = true := small62_of (by omega) (by omega)
    have hz : C ≤ 16777216 := by omega
    simp only [List.length_cons] at hl
    have hz2 : acc.length + 1 ≤ 16777216 := by omega
    obtain ⟨x', y', q⟩ := rowsLoop hC e ks (acc ++ [(List.range C).map fun (j : Nat) => f (cell * 3 + 7 * (k : Int) + 5 * (j : Int) + 2)]) (some (.int (k : Int))) (some (.lst ((List.range C).map fun (j : Nat) => .int (cell * 3 + 7 * (k : Int) + 5 * (j : Int) + 2)))) (by simp; omega)
    refine ⟨x', y', ?_⟩
    simp [SZ_val, sC, rngL_map, hz]
    rw [comp_map (fun (j : Nat) => .int (j : Int)) (fun (j : Nat) => .int (cell * 3 + 7 * (k : Int) + 5 * (j : Int) + 2)) (List.range C) (fun j _ => by simp [s3, s5, s7])]
    simp [SZ_val, hz]
    rw [comp_map (fun (j : Nat) => .int (cell * 3 + 7 * (k : Int) + 5 * (j : Int) + 2)) (fun (j : Nat) => enc (f (cell * 3 + 7 * (k : Int) + 5 * (j : Int) + 2))) (List.range C) (fun j _ => by simp [e])]
    simp [SZ_val, hz2]
    simp [Function.comp_def] at q ⊢
    rw [q]
theorem base_item {s : Sm} (h : s.isBase = true) : s.isChain = false := by
  cases s with
  | nd k ps => cases k <;> simp_all [Sm.isBase, Sm.isChain]
/-- the drawn sign -/
noncomputable def sgI (i : Int) : Nat := [43, 45, 42, 61, 60].getD i.toNat 60
theorem sgI_at {i : Int} (h0 : 0 ≤ i) (h1 : i < 5) : L2.atI [43, 45, 42, 61, 60] i = some (sgI i) ∧ [sgI i] ∈ signs := by
  have : i = 0 ∨ i = 1 ∨ i = 2 ∨ i = 3 ∨ i = 4 := by omega
  rcases this with e | e | e | e | e <;> subst e <;> exact ⟨rfl, by simp [sgI, signs]⟩
/-- the signs and items of a drawn chain -/
theorem chainLoop (h : DrawT T) {n : Nat} {f : Int → Sm} {cell l : Int} {st : Sto} (e : ∀ c, callF T (n + 1) 11 [.int c, .int l] st = .ok (enc (f c)) st) : ∀ (ks : List Nat) (acc : List (List Nat × Sm)) (x y : Option PV), acc.length + ks.length ≤ 1000 →
    ∃ x' y', forL (forF (callF T (n + 1)) (.nm 3) (.seq (.asg (.nm 4) (.sub (.cst (.str [43, 45, 42, 61, 60])) (.call 8 (.cons (.bin .Add (.var 0) (.var 3)) (.cons (.cst (.int 9901)) (.cons (.cst (.int 5)) .nil))))))
    (.seq (.asg (.nm 2) (.bin .Add (.var 2) (.tup (.cons (.tup (.cons (.var 4) (.cons (.call 11 (.cons (.bin .Add (.bin .Add (.bin .Mult (.var 0) (.cst (.int 2))) (.bin .Mult (.cst (.int 11)) (.var 3))) (.cst (.int 3))) (.cons (.bin .Sub (.var 1) (.cst (.int 1))) .nil))) .nil))) .nil))))
    .skip)))
      (ks.map fun (k : Nat) => .int (k : Int)) [some (.int cell), some (.int (l + 1)), some (.tup (acc.map fun p => .tup [.str p.1, enc p.2])), x, y] st =
      .next [some (.int cell), some (.int (l + 1)), some (.tup ((acc ++ ks.map fun (k : Nat) => ([sgI (mixI (cell + (k : Int)) 9901 5)], f (cell * 2 + 11 * (k : Int) + 3))).map fun p => .tup [.str p.1, enc p.2])), x', y'] st
  | [], acc, x, y, _ => ⟨x, y, by simp⟩
  | k :: ks, acc, x, y, hl => by
    have s2 : small64 2 = true := by decide
    have s11 : small64 11 = true := by decide
    simp only [List.length_cons] at hl
    have hz2 : acc.length + 1 ≤ 16777216 := by omega
    have es := (sgI_at (mixI_nonneg (c := cell + (k : Int)) (p := 9901) (m := 5) (by decide)) (mixI_lt (c := cell + (k : Int)) (p := 9901) (m := 5) (by decide))).1
    obtain ⟨x', y', q⟩ := chainLoop h e ks (acc ++ [([sgI (mixI (cell + (k : Int)) 9901 5)], f (cell * 2 + 11 * (k : Int) + 3))]) (some (.int (k : Int))) (some (.str [sgI (mixI (cell + (k : Int)) 9901 5)])) (by simp; omega)
    refine ⟨x', y', ?_⟩
    simp [SZ_val, mix_ok h, es, s2, s11, e, hz2]
    simp at q
    exact q
theorem pairs_of (l : List (List Nat × Sm)) : pairs (l.map (·.1)) ((l.map (·.2)).map enc) = l.map fun p => .tup [.str p.1, enc p.2] := by
  induction l with
  | nil => rfl
  | cons a l ih =>
    simp only [pairs, List.map_cons, List.zip_cons_cons] at ih ⊢
    rw [ih]
end
end SM

namespace PL
open PySem
mutual
/-- plain data: no truth value stands in it, its texts are texts -/
noncomputable def PV.fine : PV → Bool
  | .non => true
  | .int _ => true
  | .str s => s.all fun c => decide (c < 1114112)
  | .tup xs => PV.fines xs
  | .lst xs => PV.fines xs
  | _ => false
noncomputable def PV.fines : List PV → Bool
  | [] => true
  | x :: r => PV.fine x && PV.fines r
end
mutual
noncomputable def PV.deep : PV → Nat
  | .tup xs => PV.deeps xs + 1
  | .lst xs => PV.deeps xs + 1
  | _ => 0
noncomputable def PV.deeps : List PV → Nat
  | [] => 0
  | x :: r => max (PV.deep x) (PV.deeps r)
end
mutual
theorem fine_data : ∀ v : PV, v.fine = true → v.isData = true ∧ v.toD.canLay0 = true ∧ v.toD.depth = v.deep
  | .non, _ => by simp [PV.isData, PV.toD, PyData.canLay0, PyData.depth, PV.deep]
  | .int _, _ => by simp [PV.isData, PV.toD, PyData.canLay0, PyData.depth, PV.deep]
  | .str s, h => by
    simp only [PV.fine] at h
    refine ⟨by simp [PV.isData], ?_, by simp [PV.toD, PyData.depth, PV.deep]⟩
    simp only [PV.toD, PyData.canLay0, PyData.strOk]
    rw [List.all_toArray]
    exact h
  | .tup xs, h => by
    simp only [PV.fine] at h
    obtain ⟨a, b, c⟩ := fines_data xs h
    simp [PV.isData, PV.toD, PyData.canLay0, PyData.depth, PV.deep, a, b, c]
  | .lst xs, h => by
    simp only [PV.fine] at h
    obtain ⟨a, b, c⟩ := fines_data xs h
    simp [PV.isData, PV.toD, PyData.canLay0, PyData.depth, PV.deep, a, b, c]
  | .bl _, h => by simp [PV.fine] at h
  | .scr _, h => by simp [PV.fine] at h
  | .ref _, h => by simp [PV.fine] at h
theorem fines_data : ∀ vs : List PV, PV.fines vs = true → PV.areData vs = true ∧ PyData.canLayAll0 (PV.toDs vs) = true ∧ PyData.depthAll (PV.toDs vs) = PV.deeps vs
  | [], _ => by simp [PV.areData, PV.toDs, PyData.canLayAll0, PyData.depthAll, PV.deeps]
  | x :: r, h => by
    simp only [PV.fines, Bool.and_eq_true] at h
    obtain ⟨a, b, c⟩ := fine_data x h.1
    obtain ⟨a', b', c'⟩ := fines_data r h.2
    simp [PV.areData, PV.toDs, PyData.canLayAll0, PyData.depthAll, PV.deeps, a, b, c, a', b', c']
end
theorem fine_ok {v : PV} (h : v.fine = true) (hd : v.deep ≤ 64) : v.okD = true := by
  obtain ⟨a, b, c⟩ := fine_data v h
  simp [PV.okD, SeqAt.shaped, a, b, c, hd]
mutual
theorem eqv_fine : ∀ a b : PV, a.fine = true → b.fine = true → (PyData.eqv a.toD b.toD = true ↔ a = b)
  | .non, b, _, h => by cases b <;> simp_all [PV.toD, PyData.eqv, PV.fine]
  | .int i, b, _, h => by cases b <;> simp_all [PV.toD, PyData.eqv, PV.fine]
  | .str s, b, _, h => by cases b <;> simp_all [PV.toD, PyData.eqv, PV.fine]
  | .tup xs, b, g, h => by
    cases b with
    | tup ys =>
      simp only [PV.fine] at g h
      simp only [PV.toD, PyData.eqv, eqvs_fine xs ys g h, PV.tup.injEq]
    | _ => simp_all [PV.toD, PyData.eqv, PV.fine]
  | .lst xs, b, g, h => by
    cases b with
    | lst ys =>
      simp only [PV.fine] at g h
      simp only [PV.toD, PyData.eqv, eqvs_fine xs ys g h, PV.lst.injEq]
    | _ => simp_all [PV.toD, PyData.eqv, PV.fine]
  | .bl _, _, h, _ => by simp [PV.fine] at h
  | .scr _, _, h, _ => by simp [PV.fine] at h
  | .ref _, _, h, _ => by simp [PV.fine] at h
theorem eqvs_fine : ∀ a b : List PV, PV.fines a = true → PV.fines b = true → (PyData.eqvAll (PV.toDs a) (PV.toDs b) = true ↔ a = b)
  | [], [], _, _ => by simp [PV.toDs, PyData.eqvAll]
  | [], _ :: _, _, _ => by simp [PV.toDs, PyData.eqvAll]
  | _ :: _, [], _, _ => by simp [PV.toDs, PyData.eqvAll]
  | x :: r, y :: s, g, h => by
    simp only [PV.fines, Bool.and_eq_true] at g h
    simp only [PV.toDs, PyData.eqvAll, Bool.and_eq_true, eqv_fine x y g.1 h.1, eqvs_fine r s g.2 h.2, List.cons.injEq]
end
/-- equality of plain data is equality -/
theorem eqV_iff {a b : PV} (ha : a.fine = true) (hb : b.fine = true) (da : a.deep ≤ 64) (db : b.deep ≤ 64) : ∃ k, eqV a b = some k ∧ (k = true ↔ a = b) := by
  have gen : (if a.okD && b.okD then some (PyData.eqv a.toD b.toD) else none) = some (PyData.eqv a.toD b.toD) := by
    rw [fine_ok ha da, fine_ok hb db]; rfl
  unfold eqV
  split
  · exact ⟨_, rfl, by simp⟩
  · exact ⟨_, rfl, by simp⟩
  · exact ⟨_, gen, eqv_fine _ _ ha hb⟩
open Classical in
theorem eqV_fine {a b : PV} (ha : a.fine = true) (hb : b.fine = true) (da : a.deep ≤ 64) (db : b.deep ≤ 64) : eqV a b = some (decide (a = b)) := by
  obtain ⟨k, e, h⟩ := eqV_iff ha hb da db
  rw [e]
  cases k <;> simp_all
theorem eqV_self {a : PV} (ha : a.fine = true) (da : a.deep ≤ 64) : eqV a a = some true := by
  obtain ⟨k, e, h⟩ := eqV_iff ha ha da da
  rw [e, h.mpr rfl]
@[simp] theorem eq_3 (a b c a' b' c' : Int) : eqV (.tup [.int a, .int b, .int c]) (.tup [.int a', .int b', .int c']) = some (decide (a = a' ∧ b = b' ∧ c = c')) := by
  obtain ⟨k, e, h⟩ := eqV_iff (a := .tup [.int a, .int b, .int c]) (b := .tup [.int a', .int b', .int c']) rfl rfl (by simp [PV.deep, PV.deeps]) (by simp [PV.deep, PV.deeps])
  rw [e]
  simp at h
  cases k <;> simp_all
end PL

namespace SM
open PL
section
variable {T : Tab}
theorem cell_int (h : DrawT T) (n : Nat) (ns : List Int) (k : Int) (hk : 0 ≤ k) (st : Sto) : callF T (n + 1) 7 [.scr ns, .int k] st = .ok (.int (cellI ns k.toNat)) st := by
  have := cell_ok h n ns k.toNat st
  rwa [Int.toNat_of_nonneg hk] at this
/-- a loop over a range whose body always goes on -/
theorem range_inv {f : PV → Env → Sto → Out} {st : Sto} (Inv : Env → Prop) (n : Nat) (e : Env) (he : Inv e) (H : ∀ k : Nat, k < n → ∀ e, Inv e → ∃ e', f (.int (k : Int)) e st = .next e' st ∧ Inv e') :
    ∃ e', forL f (rngL 0 1 n) e st = .next e' st ∧ Inv e' := by
  refine for_inv Inv _ e he fun x hx e he => ?_
  rw [rngL_map] at hx
  obtain ⟨k, hk, rfl⟩ := List.mem_map.mp hx
  rw [show (0 : Int) + (k : Int) * 1 = (k : Int) by omega]
  exact H k (List.mem_range.mp hk) e he
theorem getD_all {α : Type} {P : α → Prop} {l : List α} {d : α} (h : ∀ x ∈ l, P x) (hd : P d) (i : Nat) : P (l.getD i d) := by
  rw [List.getD_eq_getElem?_getD]
  cases e : l[i]? with
  | none => exact hd
  | some x => exact h x (List.mem_of_getElem? e)
end
end SM

namespace SM
open PL
structure LpT (T : Tab) : Prop where
  lparts : T.lookup 13 = some Fn.f_law_parts
structure LbT (T : Tab) : Prop extends LpT T where
  lrows : T.lookup 41 = some Fn.f_law_rows
  lbox : T.lookup 42 = some Fn.f_law_box
theorem unders_of {n : Nat} : ∀ {l : List PV}, (∀ v ∈ l, v.under n = true) → PV.unders n l = true
  | [], _ => by simp [PV.unders]
  | v :: r, h => by simp [PV.unders, h v (by simp), unders_of (l := r) fun x hx => h x (by simp [hx])]
@[simp] theorem under_enc (n : Nat) (s : Sm) : (enc s).under n = true := by
  induction s using Sm.ind with
  | h k ps ih =>
    rw [enc_nd]
    have H : ∀ v ∈ ps.map enc, v.under n = true := fun v hv => by
      obtain ⟨p, hp, rfl⟩ := List.mem_map.mp hv
      exact ih p hp
    revert H
    generalize ps.map enc = vs
    intro H
    have G : ∀ i, (vs.getD i .non).under n = true := fun i => getD_all (P := fun v => PV.under n v = true) H rfl i
    have G0 : (vs.headD .non).under n = true := by
      cases vs with
      | nil => rfl
      | cons a r => exact H a (by simp)
    have U : PV.unders n vs = true := unders_of H
    cases k with
    | word t => simp [encK, PV.under, PV.unders]
    | chain ss =>
      have : PV.unders n (pairs ss vs.tail) = true := unders_of fun v hv => by
        unfold pairs at hv
        obtain ⟨p, hp, rfl⟩ := List.mem_map.mp hv
        have : p.2 ∈ vs.tail := (List.of_mem_zip hp).2
        simp [PV.under, PV.unders, H p.2 (List.mem_of_mem_tail this)]
      simp only [encK, PV.under, PV.unders, this, G0, Bool.and_self]
    | over => simp [encK, PV.under, PV.unders, U]
    | root => simp [encK, PV.under, PV.unders, U]
    | held => simp [encK, PV.under, PV.unders, U]
    | script u d =>
      have G1 := G 1
      have G2 := G (if u = true then 2 else 1)
      cases u <;> cases d <;> simp only [encK, PV.under, PV.unders, G0, G1, G2, Bool.and_self, if_true, if_false, Bool.false_eq_true]
      · simpa using G2
    | table r c =>
      have : PV.unders n ((chunk r c vs).map .tup) = true := unders_of fun v hv => by
        obtain ⟨row, hrow, rfl⟩ := List.mem_map.mp hv
        simp only [PV.under]
        exact unders_of fun x hx => H x (chunk_mem r c vs row hrow x hx)
      simp [encK, PV.under, PV.unders, this]
section
variable {T : Tab}
end
end SM

namespace PL
mutual
/-- tuples of ints, texts, none -/
noncomputable def PV.tfine : PV → Bool
  | .non => true
  | .int _ => true
  | .str _ => true
  | .tup xs => decide (xs.length ≤ 16777216) && PV.tfines xs
  | _ => false
noncomputable def PV.tfines : List PV → Bool
  | [] => true
  | x :: r => PV.tfine x && PV.tfines r
end
end PL
namespace SM
open PL
section
variable {T : Tab}
end
end SM

namespace SM
open PL
noncomputable def wysL : Nat → List (List (List Nat)) → List (List Nat)
  | _, [] => []
  | k, r :: rs => r.map (k :: ·) ++ wysL (k + 1) rs
noncomputable def wys : Sm → List (List Nat) := Sm.fold fun _ _ rs => [] :: wysL 0 rs
theorem wys_nd (k : Kd) (ps : List Sm) : wys (.nd k ps) = [] :: wysL 0 (ps.map wys) := fold_nd _ k ps
noncomputable def encW (w : List Nat) : PV := .tup (w.map fun (k : Nat) => .int (k : Int))
noncomputable def partAt : Sm → List Nat → Option Sm
  | s, [] => some s
  | s, k :: w => match s.ps[k]? with
    | some p => partAt p w
    | none => none
noncomputable def mayBe (k : Kd) (i : Nat) (new : Sm) : Bool := match k with
  | .chain _ => !new.isChain
  | .script _ _ => decide (0 < i) || new.isBase
  | _ => true
structure WwT (T : Tab) : Prop extends KpT T where
  ways : T.lookup 25 = some Fn.f_ways
  part_at : T.lookup 26 = some Fn.f_part_at
structure WyT (T : Tab) : Prop extends WwT T where
  with_parts : T.lookup 22 = some Fn.f_with_parts
  may_be : T.lookup 27 = some Fn.f_may_be
  put_at : T.lookup 28 = some Fn.f_put_at
/-- without puts -/
structure WpT (T : Tab) : Prop extends WwT T where
  with_parts : T.lookup 22 = some Fn.f_with_parts
  may_be : T.lookup 27 = some Fn.f_may_be
structure PaT (T : Tab) : Prop extends KpT T where
  part_at : T.lookup 26 = some Fn.f_part_at
structure PwT (T : Tab) : Prop extends KpT T where
  with_parts : T.lookup 22 = some Fn.f_with_parts
  may_be : T.lookup 27 = some Fn.f_may_be
structure PtT (T : Tab) : Prop extends PwT T where
  part_at : T.lookup 26 = some Fn.f_part_at
  put_at : T.lookup 28 = some Fn.f_put_at
theorem WwT.pa {T : Tab} (h : WwT T) : PaT T := ⟨h.toKpT, h.part_at⟩
theorem WpT.pw {T : Tab} (h : WpT T) : PwT T := ⟨h.toKpT, h.with_parts, h.may_be⟩
theorem PtT.pa {T : Tab} (h : PtT T) : PaT T := ⟨h.toKpT, h.part_at⟩
theorem PtT.pw {T : Tab} (h : PtT T) : PwT T := h.toPwT
theorem le_sum_of : ∀ {l : List Nat} {n : Nat}, n ∈ l → n ≤ l.sum
  | a :: r, n, h => by
    rw [List.sum_cons]
    rcases List.mem_cons.mp h with z | z
    · omega
    · have := le_sum_of z; omega
theorem under_ints (n : Nat) (w : List Nat) : PV.unders n (w.map fun (k : Nat) => PV.int (k : Int)) = true := by
  induction w with
  | nil => simp [PV.unders]
  | cons a r ih => simp [PV.unders, PV.under, ih]
@[simp] theorem under_encW (n : Nat) (w : List Nat) : (encW w).under n = true := by simp only [encW, PV.under, under_ints]
theorem under_encWs (n : Nat) (l : List (List Nat)) : PV.unders n (l.map encW) = true := by
  induction l with
  | nil => simp [PV.unders]
  | cons a r ih => simp [PV.unders, ih]
@[simp] theorem d_encW (st : Sto) (w : List Nat) : deref st (encW w) = encW w := (rfl)
theorem wysL_len : ∀ (k : Nat) (rs : List (List (List Nat))), (wysL k rs).length = (rs.map List.length).sum
  | _, [] => rfl
  | k, r :: rs => by simp [wysL, wysL_len (k + 1) rs]
theorem wys_dp {s : Sm} : ∀ w ∈ wys s, w.length < dp s := by
  induction s using Sm.ind with
  | h k ps ih =>
    intro w hw
    rw [wys_nd] at hw
    rcases List.mem_cons.mp hw with z | z
    · subst z; exact dp_pos (.nd k ps)
    · have key : ∀ (j : Nat) (l : List Sm), (∀ p ∈ l, p ∈ ps) → ∀ w ∈ wysL j (l.map wys), w.length < dp (.nd k ps) := by
        intro j l
        induction l generalizing j with
        | nil => intro _ w hw; simp [wysL] at hw
        | cons p l ihl =>
          intro hl w hw
          simp only [List.map_cons, wysL, List.mem_append, List.mem_map] at hw
          rcases hw with ⟨v, hv, rfl⟩ | hw
          · have h1 := ih p (hl p (by simp)) v hv
            have h2 := dp_lt (k := k) (hl p (by simp))
            simp only [List.length_cons]
            omega
          · exact ihl (j + 1) (fun q hq => hl q (by simp [hq])) w hw
      exact key 0 ps (fun _ h => h) w z
section
variable {T : Tab}
theorem waysL {cf : CF} {S : Option PV} {st : Sto} : ∀ (ps : List Sm) (k : Nat) (acc : List PV) (x y : Option PV), (∀ p ∈ ps, dp p ≤ 1000) → (∀ p ∈ ps, ∀ st, cf 25 [enc p] st = .ok (.tup ((wys p).map encW)) st) → acc.length + (wysL k (ps.map wys)).length ≤ 16777216 →
    ∃ x' y', forL (forF cf (.tp (.cons (.nm 2) (.cons (.nm 3) .nil))) (.seq (.exp (.mth .extend (.var 1) (.cons (.comp [4] (.nm 4) (.seq (.call 25 (.cons (.var 3) .nil))) .yes (.bin .Add (.tup (.cons (.var 2) .nil)) (.var 4))) .nil))) .skip)) (enumL k (ps.map enc)) [S, some (.ref st.length), x, y, none] (st ++ [.lst acc]) =
      .next [S, some (.ref st.length), x', y', none] (st ++ [.lst (acc ++ (wysL k (ps.map wys)).map encW)])
  | [], k, acc, x, y, _, _, _ => ⟨x, y, by simp [enumL, wysL]⟩
  | p :: ps, k, acc, x, y, hd, h, hl => by
    simp only [List.map_cons, wysL, List.length_append, List.length_map] at hl
    obtain ⟨x', y', e⟩ := waysL (cf := cf) (S := S) (st := st) ps (k + 1) (acc ++ ((wys p).map (k :: ·)).map encW) (some (.int (k : Int))) (some (enc p)) (fun q hq => hd q (by simp [hq])) (fun q hq => h q (by simp [hq])) (by simp; omega)
    refine ⟨x', y', ?_⟩
    have hz : (wys p).length ≤ 16777216 := by omega
    have hz2 : acc.length + (wys p).length ≤ 16777216 := by omega
    simp [enumL, h p (by simp), SZ_val, hz]
    rw [comp_map encW (fun w => encW (k :: w)) (wys p) (fun w hw => by
      have h1 := wys_dp w hw
      have h2 := hd p (by simp)
      have h3 : 1 + w.length ≤ 16777216 := by omega
      simp [encW, SZ_val, h3])]
    simp [SZ_val, hz2]
    simp [wysL] at e ⊢
    exact e
theorem ways_ok (h : WwT T) (s : Sm) (hs : Sh s) (hd : dp s ≤ 1000) (hz : (wys s).length ≤ 16777216) : ∀ n, 2 * dp s + 1 ≤ n → ∀ st, callF T n 25 [enc s] st = .ok (.tup ((wys s).map encW)) st := by
  induction s using Sm.ind with
  | h k ps ih =>
    intro n hn st
    obtain ⟨m, rfl⟩ : ∃ m, n = m + 3 := ⟨n - 3, by have := dp_pos (.nd k ps); omega⟩
    rw [callF_of h.ways, runD_of rfl]
    rw [wys_nd] at hz ⊢
    simp only [List.length_cons] at hz
    have hb : ∀ p ∈ ps, ∀ st, callF T (m + 2) 25 [enc p] st = .ok (.tup ((wys p).map encW)) st := fun p hp => by
      have h1 := dp_lt (k := k) hp
      refine ih p hp (hs.mem p hp) (by omega) ?_ (m + 2) (by omega)
      have h2 : (wys p).length ≤ ((ps.map wys).map List.length).sum := le_sum_of (by simp; exact ⟨p, hp, rfl⟩)
      rw [wysL_len] at hz
      omega
    obtain ⟨x', y', e⟩ := waysL (cf := callF T (m + 2)) (S := some (enc (.nd k ps))) (st := st) ps 0 [encW []] none none (fun p hp => by have := dp_lt (k := k) hp; omega) hb (by simp; omega)
    have hp := parts_ok h.toKpT m (.nd k ps) hs (st ++ [.lst [.tup []]])
    simp [Sm.ps] at hp
    have e0 : encW [] = .tup [] := rfl
    rw [e0] at e
    simp at e
    simp [Fn.f_ways, start, SZ_val, hp, e0]
    rw [e]
    simp
    refine k_fnA ?_
    simp only [PV.under, PV.unders, Bool.true_and]
    exact under_encWs _ _
theorem partLP (h : PaT T) (m : Nat) {W : Option PV} : ∀ (w : List Nat) (s p : Sm) (x : Option PV) (st : Sto), Sh s → partAt s w = some p →
    ∃ x', forL (forF (callF T (m + 2)) (.nm 2) (.seq (.ite (.nt (.cmp2 .LtE .Lt (.cst (.int 0)) (.var 2) (.bi .len (.cons (.call 21 (.cons (.var 0) .nil)) .nil)))) (.seq (.rse 1)
    .skip) .skip)
    (.seq (.asg (.nm 0) (.sub (.call 21 (.cons (.var 0) .nil)) (.var 2)))
    .skip))) (w.map fun (k : Nat) => .int (k : Int)) [some (enc s), W, x] st = .next [some (enc p), W, x'] st
  | [], s, p, x, st, _, e => by simp [partAt] at e; subst e; exact ⟨x, by simp⟩
  | k :: w, s, p, x, st, hs, e => by
    simp only [partAt] at e
    split at e
    · rename_i q hq
      have hm : q ∈ s.ps := List.mem_of_getElem? hq
      have hsq : Sh q := by
        cases s with
        | nd kd ps => exact hs.mem q hm
      obtain ⟨x', e'⟩ := partLP h m w q p (some (.int (k : Int))) st hsq e
      refine ⟨x', ?_⟩
      have hl : k < s.ps.length := (List.getElem?_eq_some_iff.mp hq).1
      have hp := parts_ok h.toKpT m s hs st
      have ha : (s.ps.map enc)[k]? = some (enc q) := by rw [List.getElem?_map, hq]; rfl
      simp [hp, hl, atI_nat ha]
      exact e'
    · cases e
theorem part_at_okP (h : PaT T) (n : Nat) {s p : Sm} {w : List Nat} (hs : Sh s) (e : partAt s w = some p) (st : Sto) : callF T (n + 3) 26 [enc s, encW w] st = .ok (enc p) st := by
  rw [callF_of h.part_at, runD_of rfl]
  obtain ⟨x', q⟩ := partLP h n (W := some (encW w)) w s p none st hs e
  have hi : itV (encW w) = some (w.map fun (k : Nat) => .int (k : Int)) := rfl
  simp [Fn.f_part_at, start, hi]
  rw [q]
  simp
theorem part_at_ok (h : WwT T) (n : Nat) {s p : Sm} {w : List Nat} (hs : Sh s) (e : partAt s w = some p) (st : Sto) : callF T (n + 3) 26 [enc s, encW w] st = .ok (enc p) st :=
  part_at_okP h.pa n hs e st
theorem isChain_name (s : Sm) : (s.kd.name = [99, 104, 97, 105, 110]) ↔ s.isChain = true := by
  cases s with
  | nd k ps => cases k <;> simp [Sm.kd, Kd.name, Sm.isChain]
theorem isBase_name (s : Sm) : (s.kd.name = [119, 111, 114, 100] ∨ s.kd.name = [104, 101, 108, 100] ∨ s.kd.name = [116, 97, 98, 108, 101]) ↔ s.isBase = true := by
  cases s with
  | nd k ps => cases k <;> simp [Sm.kd, Kd.name, Sm.isBase]
theorem may_okP (h : PwT T) (n : Nat) (s new : Sm) (i : Nat) (st : Sto) : callF T (n + 2) 27 [enc s, .int (i : Int), enc new] st = .ok (.bl (mayBe s.kd i new)) st := by
  rw [callF_of h.may_be, runD_of rfl]
  have hk : ∀ st, callF T (n + 1) 20 [enc s] st = .ok (.str s.kd.name) st := kindS h.toKpT n s
  have hn : ∀ st, callF T (n + 1) 20 [enc new] st = .ok (.str new.kd.name) st := kindS h.toKpT n new
  have hc := isChain_name new
  have hb := isBase_name new
  cases s with
  | nd k ps =>
    simp only [Sm.kd] at hk ⊢
    cases k with
    | chain ss =>
      simp only [Kd.name] at hk
      by_cases z : new.isChain = true
      · simp [Fn.f_may_be, start, hk, hn, hc.mpr z, mayBe, z]
      · have z2 : ¬ new.kd.name = [99, 104, 97, 105, 110] := fun y => z (hc.mp y)
        simp [Fn.f_may_be, start, hk, hn, z2, mayBe, z]
    | script u d =>
      simp only [Kd.name] at hk
      by_cases hi : 0 < i
      · have hi2 : (0 : Int) < (i : Int) := by omega
        simp [Fn.f_may_be, start, hk, hn, mayBe, hi, hi2]
      · have hi2 : ¬ ((0 : Int) < (i : Int)) := by omega
        have hi0 : i = 0 := by omega
        subst hi0
        by_cases z : new.isBase = true
        · simp [Fn.f_may_be, start, hk, hn, mayBe, z, hb]
        · simp [Fn.f_may_be, start, hk, hn, mayBe, z, hb]
    | _ => simp only [Kd.name] at hk; simp [Fn.f_may_be, start, hk, hn, mayBe]
theorem may_ok (h : WpT T) (n : Nat) (s new : Sm) (i : Nat) (st : Sto) : callF T (n + 2) 27 [enc s, .int (i : Int), enc new] st = .ok (.bl (mayBe s.kd i new)) st :=
  may_okP h.pw n s new i st
theorem zipP : ∀ (ss : List (List Nat)) (xs ys : List PV), xs.length = ss.length → ys.length = ss.length → zipL (pairs ss xs) ys = (ss.zip (xs.zip ys)).map fun p => .tup [.tup [.str p.1, p.2.1], p.2.2]
  | [], xs, ys, _, _ => by simp [pairs, zipL]
  | s :: ss, x :: xs, y :: ys, h1, h2 => by
    have := zipP ss xs ys (by simpa using h1) (by simpa using h2)
    simp only [pairs, List.zip_cons_cons, List.map_cons, zipL] at this ⊢
    rw [this]
  | _ :: _, [], _, h, _ => by simp at h
  | _ :: _, _ :: _, [], _, h => by simp at h
theorem pairs_zip : ∀ (ss : List (List Nat)) (xs ys : List PV), xs.length = ss.length → ys.length = ss.length → (ss.zip (xs.zip ys)).map (fun p => PV.tup [.str p.1, p.2.2]) = pairs ss ys
  | [], xs, ys, _, _ => by simp [pairs]
  | s :: ss, x :: xs, y :: ys, h1, h2 => by
    have := pairs_zip ss xs ys (by simpa using h1) (by simpa using h2)
    simp only [pairs, List.zip_cons_cons, List.map_cons] at this ⊢
    rw [this]
  | _ :: _, [], _, h, _ => by simp at h
  | _ :: _, _ :: _, [], _, h => by simp at h
theorem chunk_cut {α : Type} (c : Nat) : ∀ (r : Nat) (xs : List α), (List.range r).map (fun (j : Nat) => (xs.drop (j * c)).take c) = chunk r c xs
  | 0, _ => rfl
  | r + 1, xs => by
    rw [List.range_succ_eq_map, List.map_cons, List.map_map]
    simp only [chunk, Nat.zero_mul, List.drop_zero]
    rw [← chunk_cut c r (xs.drop c)]
    congr 1
    refine List.map_congr_left fun j _ => ?_
    simp only [Function.comp, List.drop_drop]
    rw [show (j + 1) * c = c + j * c by rw [Nat.succ_mul]; omega]
theorem cut_mid {α : Type} (xs : List α) (a b : Nat) : cutL xs (some (a : Int)) (some (b : Int)) = (xs.drop a).take (b - a) := by
  unfold cutL
  rw [HT.sIx_nat, HT.sIx_nat]
  by_cases h : a ≤ xs.length
  · rw [Nat.min_eq_left h]
    by_cases h2 : b ≤ xs.length
    · rw [Nat.min_eq_left h2]
    · rw [Nat.min_eq_right (by omega), List.take_of_length_le (by rw [List.length_drop]; exact Nat.le_refl _), List.take_of_length_le (by rw [List.length_drop]; omega)]
  · rw [show min a xs.length = xs.length by omega, List.drop_length, List.drop_eq_nil_of_le (by omega)]
    simp
theorem fitsL {i : Int} (h1 : 0 ≤ i) (h2 : i ≤ 2000000) : PySem.Builtin.Range.rangeFitsLong i = true := by
  unfold PySem.Builtin.Range.rangeFitsLong
  simp only [Bool.and_eq_true, decide_eq_true_eq]
  omega
theorem rng3_ok (r c : Nat) (h1 : 1 ≤ r) (h2 : 1 ≤ c) (h3 : r ≤ 1000) (h4 : c ≤ 1000) : rngV [.int 0, .int ((r : Int) * (c : Int)), .int (c : Int)] = some (rngL 0 (c : Int) r) := by
  have hs : PySem.Builtin.Range.rangeSize 0 ((r : Int) * (c : Int)) (c : Int) = (r : Int) := by
    unfold PySem.Builtin.Range.rangeSize
    have hpos : (0 : Int) < (r : Int) * (c : Int) := Int.mul_pos (by omega) (by omega)
    rw [if_pos (by omega), if_pos hpos]
    have : ((r : Int) * (c : Int) - 0 - 1) / (c : Int) = (r : Int) - 1 := by
      have e : (r : Int) * (c : Int) - 0 - 1 = ((c : Int) - 1) + (c : Int) * ((r : Int) - 1) := by
        rw [Int.mul_sub, Int.mul_comm (c : Int) (r : Int)]; omega
      rw [e, Int.add_mul_ediv_left _ _ (by omega), Int.ediv_eq_zero_of_lt (by omega) (by omega)]
      omega
    rw [this]
    omega
  simp only [rngV, hs]
  have hp : (r : Int) * (c : Int) ≤ 1000000 := by
    have : r * c ≤ 1000 * 1000 := Nat.mul_le_mul h3 h4
    rw [← Int.natCast_mul]
    omega
  have hp0 : (0 : Int) ≤ (r : Int) * (c : Int) := Int.mul_nonneg (by omega) (by omega)
  rw [if_pos]
  · rw [Int.toNat_natCast]
  · unfold PySem.Builtin.Range.small
    rw [hs, fitsL (Int.le_refl 0) (by omega), fitsL hp0 (by omega), fitsL (i := (c : Int)) (by omega) (by omega), fitsL (i := (r : Int)) (by omega) (by omega), if_pos (by omega), fitsL (i := (r : Int) * (c : Int) + ((c : Int) - 1)) (by omega) (by omega)]
    have n1 : decide ((c : Int) ≠ 0) = true := decide_eq_true (by omega)
    have n2 : decide ((c : Int).natAbs < 1073741824) = true := decide_eq_true (by omega)
    have n3 : decide ((0 : Int) ≤ (r : Int)) = true := decide_eq_true (by omega)
    rw [n1, n2, n3]
    simp only [Bool.and_self, Bool.or_true]
theorem with_okP (h : PwT T) (n : Nat) (k : Kd) (ps qs : List Sm) (hs : Sh (.nd k ps)) (hl : qs.length = ps.length) (st : Sto) : callF T (n + 2) 22 [enc (.nd k ps), .tup (qs.map enc)] st = .ok (enc (.nd k qs)) st := by
  rw [callF_of h.with_parts, runD_of rfl]
  have sh := hs.kd
  have hlen := hs.len
  rw [enc_nd, enc_nd]
  cases k with
  | word t =>
    have : ps = [] := List.eq_nil_of_length_eq_zero sh
    subst this
    have : qs = [] := List.eq_nil_of_length_eq_zero (by simpa using hl)
    subst this
    simp [Fn.f_with_parts, start, encK, kind_ok h.toKpT, SZ_val]
  | over =>
    obtain ⟨a, b, rfl⟩ := len2 sh
    obtain ⟨c, d, rfl⟩ := len2 (show qs.length = 2 by simpa using hl)
    simp [Fn.f_with_parts, start, encK, kind_ok h.toKpT, SZ_val]
    exact k_fnA (by simp [PV.under, PV.unders])
  | root =>
    obtain ⟨a, rfl⟩ := len1 sh
    obtain ⟨c, rfl⟩ := len1 (show qs.length = 1 by simpa using hl)
    simp [Fn.f_with_parts, start, encK, kind_ok h.toKpT, SZ_val]
    exact k_fnA (by simp [PV.under, PV.unders])
  | held =>
    obtain ⟨a, rfl⟩ := len1 sh
    obtain ⟨c, rfl⟩ := len1 (show qs.length = 1 by simpa using hl)
    simp [Fn.f_with_parts, start, encK, kind_ok h.toKpT, SZ_val]
    exact k_fnA (by simp [PV.under, PV.unders])
  | script u d =>
    obtain ⟨hud, sh⟩ := sh
    cases u <;> cases d <;> simp at hud sh
    · obtain ⟨a, b, rfl⟩ := len2 sh
      obtain ⟨c, d, rfl⟩ := len2 (show qs.length = 2 by simpa using hl)
      simp [Fn.f_with_parts, start, encK, kind_ok h.toKpT, SZ_val]
      exact k_fnA (by simp [PV.under, PV.unders])
    · obtain ⟨a, b, rfl⟩ := len2 sh
      obtain ⟨c, d, rfl⟩ := len2 (show qs.length = 2 by simpa using hl)
      simp [Fn.f_with_parts, start, encK, kind_ok h.toKpT, SZ_val]
      exact k_fnA (by simp [PV.under, PV.unders])
    · obtain ⟨a, b, c, rfl⟩ := len3 sh
      obtain ⟨d, e, f, rfl⟩ := len3 (show qs.length = 3 by simpa using hl)
      simp [Fn.f_with_parts, start, encK, kind_ok h.toKpT, SZ_val]
      exact k_fnA (by simp [PV.under, PV.unders])
  | chain ss =>
    obtain ⟨a, r, rfl, hr⟩ := lenS sh
    obtain ⟨b, q, rfl, hq⟩ := lenS (show qs.length = ss.length + 1 by rw [hl]; exact sh)
    simp only [List.length_cons] at hlen
    have hz := zipP ss (r.map enc) (q.map enc) (by simpa using hr) (by simpa using hq)
    have hn : (ss.zip ((r.map enc).zip (q.map enc))).length ≤ 16777216 := by simp; omega
    have hn2 := hn
    simp at hn2
    simp [Fn.f_with_parts, start, encK, kind_ok h.toKpT, SZ_val, hz, hn2]
    rw [comp_map (fun (p : List Nat × PV × PV) => .tup [.tup [.str p.1, p.2.1], p.2.2]) (fun p => .tup [.str p.1, p.2.2]) _ (fun p _ => by simp [SZ_val])]
    simp [SZ_val, pairs_zip ss (r.map enc) (q.map enc) (by simpa using hr) (by simpa using hq)]
  | table r c =>
    obtain ⟨h1, h2, h3⟩ := sh
    have hc : c ≤ 1000 := by
      have : 1 * c ≤ r * c := Nat.mul_le_mul_right c h1
      omega
    have hr : r ≤ 1000 := by
      have : r * 1 ≤ r * c := Nat.mul_le_mul_left r h2
      omega
    have hq : qs.length = r * c := by rw [hl, h3]
    obtain ⟨r', rfl⟩ : ∃ j, r = j + 1 := ⟨r - 1, by omega⟩
    have hfirst : ((ps.map enc).take c).length = c := by
      rw [List.length_take, List.length_map]
      have : 1 * c ≤ (r' + 1) * c := Nat.mul_le_mul_right c h1
      omega
    have hfirst2 : min c ps.length = c := by simpa using hfirst
    have hrng := rng3_ok (r' + 1) c h1 h2 hr hc
    have hcut : ∀ j : Nat, cutL (qs.map enc) (some ((j * c : Nat) : Int)) (some ((j * c : Nat) + c : Int)) = ((qs.map enc).drop (j * c)).take c := fun j => by
      have := cut_mid (qs.map enc) (j * c) (j * c + c)
      rw [Nat.add_sub_cancel_left, Int.natCast_add] at this
      exact this
    have hq2 : (qs.length : Int) = ((r' + 1 : Nat) : Int) * (c : Int) := by rw [hq, Int.natCast_mul]
    have hrl : ((List.range (r' + 1)).map fun (j : Nat) => PV.int (0 + (j : Int) * (c : Int))).length ≤ 16777216 := by simp; omega
    simp [Fn.f_with_parts, start, encK, kind_ok h.toKpT, SZ_val, chunk, hfirst2]
    rw [hq2, hrng]
    have hr15 : r' ≤ 16777215 := by omega
    simp [SZ_val, rngL_map, hr15]
    rw [comp_map (fun (j : Nat) => .int ((j : Int) * (c : Int))) (fun (j : Nat) => .tup (((qs.map enc).drop (j * c)).take c)) (List.range (r' + 1)) (fun j _ => by
      have := hcut j
      rw [Int.natCast_mul] at this
      simp [this])]
    have hch : (List.range (r' + 1)).map (fun (j : Nat) => PV.tup (((qs.map enc).drop (j * c)).take c)) = (chunk (r' + 1) c (qs.map enc)).map .tup := by
      rw [← chunk_cut, List.map_map]
      rfl
    rw [hch]
    simp [SZ_val, chunk]
theorem with_ok (h : WpT T) (n : Nat) (k : Kd) (ps qs : List Sm) (hs : Sh (.nd k ps)) (hl : qs.length = ps.length) (st : Sto) : callF T (n + 2) 22 [enc (.nd k ps), .tup (qs.map enc)] st = .ok (enc (.nd k qs)) st :=
  with_okP h.pw n k ps qs hs hl st
end
end SM

namespace SM
open PL
structure Grow (a e : Int) (b b' : Bx) : Prop where
  w1 : b.w ≤ b'.w
  w2 : b'.w ≤ b.w + a
  u : b.u ≤ b'.u
  d : b.d ≤ b'.d
  s : b'.u + b'.d ≤ b.u + b.d + e
theorem Grow.rows {a e : Int} {b b' : Bx} (g : Grow a e b b') : b.rows ≤ b'.rows ∧ b'.rows ≤ b.rows + e := by
  have := g.u; have := g.d; have := g.s
  unfold Bx.rows; omega
theorem Sh.part {s p : Sm} (h : Sh s) {k : Nat} (e : s.ps[k]? = some p) : Sh p := by
  cases s with
  | nd kd ps => exact h.mem p (List.mem_of_getElem? e)
theorem Gd.part {s p : Sm} (h : Gd s) {k : Nat} (e : s.ps[k]? = some p) : Gd p := by
  cases s with
  | nd kd ps => exact h.mem p (List.mem_of_getElem? e)
theorem gd_len {k : Kd} {ps : List Sm} (h : k.gd ps) : ps.length ≤ 9 := by
  cases k with
  | word t => simp [h.1]
  | chain ss => have := h.1; have := h.2.2.1; omega
  | over => rw [show ps.length = 2 from h]; omega
  | root => rw [show ps.length = 1 from h]; omega
  | held => rw [show ps.length = 1 from h]; omega
  | script u d =>
    have := h.2.1
    cases u <;> cases d <;> simp at this <;> omega
  | table r c =>
    have h1 : r * c ≤ 3 * 3 := Nat.mul_le_mul h.1.2 h.2.1.2
    have := h.2.2
    omega
theorem wysL_mem : ∀ {rs : List (List (List Nat))} {j : Nat} {w : List Nat}, w ∈ wysL j rs → ∃ (i : Nat) (r : List (List Nat)) (v : List Nat), rs[i]? = some r ∧ v ∈ r ∧ w = (j + i) :: v
  | [], j, w, h => by simp [wysL] at h
  | r :: rs, j, w, h => by
    simp only [wysL, List.mem_append, List.mem_map] at h
    rcases h with ⟨v, hv, rfl⟩ | h
    · exact ⟨0, r, v, rfl, hv, rfl⟩
    · obtain ⟨i, r', v, h1, h2, h3⟩ := wysL_mem h
      exact ⟨i + 1, r', v, by simpa using h1, h2, by rw [h3]; congr 1; omega⟩
theorem wys_mem : ∀ {w : List Nat} {s : Sm}, w ∈ wys s → w = [] ∨ ∃ (k : Nat) (p : Sm) (v : List Nat), s.ps[k]? = some p ∧ v ∈ wys p ∧ w = k :: v
  | w, .nd kd ps, h => by
    rw [wys_nd] at h
    rcases List.mem_cons.mp h with z | z
    · exact .inl z
    · obtain ⟨i, r, v, h1, h2, h3⟩ := wysL_mem z
      rw [List.getElem?_map] at h1
      cases q : ps[i]? with
      | none => rw [q] at h1; cases h1
      | some p =>
        rw [q] at h1
        simp at h1
        subst h1
        exact .inr ⟨i, p, v, q, h2, by rw [h3]; congr 1; omega⟩
theorem wys_part : ∀ {w : List Nat} {s : Sm}, w ∈ wys s → Gd s → ∃ p, partAt s w = some p ∧ Gd p ∧ w.length + dp p ≤ dp s
  | [], s, h, g => ⟨s, rfl, g, by simp⟩
  | k :: w, s, h, g => by
    rcases wys_mem h with z | ⟨k', q, v, h1, h2, h3⟩
    · cases z
    · cases h3
      obtain ⟨p, a, b, c⟩ := wys_part h2 (g.part h1)
      refine ⟨p, by simp only [partAt, h1]; exact a, b, ?_⟩
      cases s with
      | nd kd ps =>
        have := dp_lt (k := kd) (show q ∈ ps from List.mem_of_getElem? h1)
        simp only [List.length_cons]
        omega
end SM

namespace SM
open PL
section
variable {T : Tab}
@[simp] theorem eq_2 (a b a' b' : Int) : eqV (.tup [.int a, .int b]) (.tup [.int a', .int b']) = some (decide (a = a' ∧ b = b')) := by
  rw [eqV_fine (by simp [PV.fine, PV.fines]) (by simp [PV.fine, PV.fines]) (by simp [PV.deep, PV.deeps]) (by simp [PV.deep, PV.deeps])]
  simp
end
end SM

namespace SM
open PL
theorem fines_iff {vs : List PV} : PV.fines vs = true ↔ ∀ v ∈ vs, v.fine = true := by
  induction vs with
  | nil => simp [PV.fines]
  | cons a r ih => simp [PV.fines, ih]
theorem deeps_le {vs : List PV} {m : Nat} : PV.deeps vs ≤ m ↔ ∀ v ∈ vs, v.deep ≤ m := by
  induction vs with
  | nil => simp [PV.deeps]
  | cons a r ih => simp only [PV.deeps, List.mem_cons, forall_eq_or_imp, ← ih]; omega
theorem signs_fine {c : List Nat} (h : c ∈ signs) : (PV.str c).fine = true := by
  simp [signs] at h
  rcases h with rfl | rfl | rfl | rfl | rfl <;> simp [PV.fine]
theorem pairs_mem {ss : List (List Nat)} {vs : List PV} {v : PV} (h : v ∈ pairs ss vs) : ∃ c x, c ∈ ss ∧ x ∈ vs ∧ v = .tup [.str c, x] := by
  unfold pairs at h
  obtain ⟨p, hp, rfl⟩ := List.mem_map.mp h
  exact ⟨p.1, p.2, (List.of_mem_zip hp).1, (List.of_mem_zip hp).2, rfl⟩
theorem enc_data {s : Sm} (h : Gd s) : (enc s).fine = true ∧ (enc s).deep ≤ 3 * dp s := by
  induction s using Sm.ind with
  | h k ps ih =>
    have hk := h.kd
    have H : ∀ v ∈ ps.map enc, v.fine = true ∧ v.deep ≤ 3 * (dp (.nd k ps) - 1) := fun v hv => by
      obtain ⟨p, hp, rfl⟩ := List.mem_map.mp hv
      have i1 := ih p hp (h.mem p hp)
      have := dp_lt (k := k) hp
      exact ⟨i1.1, by omega⟩
    have hd := dp_pos (.nd k ps)
    have hlen : (ps.map enc).length = ps.length := List.length_map _
    rw [enc_nd]
    generalize dp (.nd k ps) = m at H hd
    revert H hlen
    generalize ps.map enc = vs
    intro hlen H
    obtain ⟨m, rfl⟩ : ∃ j, m = j + 1 := ⟨m - 1, by omega⟩
    have H : ∀ v ∈ vs, v.fine = true ∧ v.deep ≤ 3 * m := fun v hv => by have := H v hv; simpa using this
    cases k with
    | word t =>
      have : t.all (fun c => decide (c < 1114112)) = true := by
        rw [List.all_eq_true]
        intro c hc
        have := hk.2.2.2 c hc
        simp [isLt] at this
        simp; omega
      simp [encK, PV.fine, PV.fines, PV.deep, PV.deeps, this]
      omega
    | chain ss =>
      obtain ⟨v, r, rfl, hr⟩ := lenS (hlen.trans hk.1)
      have f1 : PV.fines (pairs ss r) = true := fines_iff.mpr fun x hx => by
        obtain ⟨c, y, hc, hy, rfl⟩ := pairs_mem hx
        have := signs_fine (hk.2.2.2.1 c hc)
        have := (H y (by simp [hy])).1
        simp_all [PV.fine, PV.fines]
      have f2 : PV.deeps (pairs ss r) ≤ 3 * m + 1 := deeps_le.mpr fun x hx => by
        obtain ⟨c, y, hc, hy, rfl⟩ := pairs_mem hx
        have := (H y (by simp [hy])).2
        simp [PV.deep, PV.deeps]; omega
      have := H v (by simp)
      simp [encK, PV.fine, PV.fines, PV.deep, PV.deeps, f1, this.1]
      omega
    | table r c =>
      have f1 : PV.fines ((chunk r c vs).map .tup) = true := fines_iff.mpr fun x hx => by
        obtain ⟨row, hrow, rfl⟩ := List.mem_map.mp hx
        simp only [PV.fine]
        exact fines_iff.mpr fun y hy => (H y (chunk_mem r c vs row hrow y hy)).1
      have f2 : PV.deeps ((chunk r c vs).map .tup) ≤ 3 * m + 1 := deeps_le.mpr fun x hx => by
        obtain ⟨row, hrow, rfl⟩ := List.mem_map.mp hx
        simp only [PV.deep]
        have : PV.deeps row ≤ 3 * m := deeps_le.mpr fun y hy => (H y (chunk_mem r c vs row hrow y hy)).2
        omega
      simp [encK, PV.fine, PV.fines, PV.deep, PV.deeps, f1]
      omega
    | over =>
      have f1 := fines_iff.mpr fun v hv => (H v hv).1
      have f2 := deeps_le.mpr fun v hv => (H v hv).2
      simp [encK, PV.fine, PV.fines, PV.deep, PV.deeps, f1]; omega
    | root =>
      have f1 := fines_iff.mpr fun v hv => (H v hv).1
      have f2 := deeps_le.mpr fun v hv => (H v hv).2
      simp [encK, PV.fine, PV.fines, PV.deep, PV.deeps, f1]; omega
    | held =>
      have f1 := fines_iff.mpr fun v hv => (H v hv).1
      have f2 := deeps_le.mpr fun v hv => (H v hv).2
      simp [encK, PV.fine, PV.fines, PV.deep, PV.deeps, f1]; omega
    | script u d =>
      have n1 : PV.non.fine = true ∧ PV.non.deep ≤ 3 * m := by simp [PV.fine, PV.deep]
      have g0 : (vs.headD .non).fine = true ∧ (vs.headD .non).deep ≤ 3 * m := by
        cases vs with
        | nil => exact n1
        | cons a r => exact H a (by simp)
      have G : ∀ i : Nat, (vs.getD i .non).fine = true ∧ (vs.getD i .non).deep ≤ 3 * m := fun i => getD_all (P := fun v : PV => v.fine = true ∧ v.deep ≤ 3 * m) H n1 i
      have g1 := G 1
      have g2 := G 2
      cases u <;> cases d <;> simp only [encK, PV.fine, PV.fines, PV.deep, PV.deeps, if_true, if_false, Bool.false_eq_true, g0.1, g1.1, g2.1] <;> refine ⟨by simp, by omega⟩
theorem enc_self {a : Sm} (ga : Gd a) (da : dp a ≤ 20) : eqV (enc a) (enc a) = some true := eqV_self (enc_data ga).1 (by have := (enc_data ga).2; omega)
noncomputable def Kd.isCh : Kd → Bool
  | .chain _ => true
  | _ => false
noncomputable def Kd.isSc : Kd → Bool
  | .script _ _ => true
  | _ => false
noncomputable abbrev Cx := Option (Kd × Nat)
/-- a held around such a part goes there -/
noncomputable def goes (c : Cx) (p : Sm) : Bool :=
  match c with
  | none => true
  | some (k, i) => !(k.isSc && decide (i = 0)) && !(k.isCh && p.isChain)
noncomputable def mapI {α β : Type} (f : Nat → α → β) : Nat → List α → List β
  | _, [] => []
  | i, a :: r => f i a :: mapI f (i + 1) r
theorem mapI_len {α β : Type} (f : Nat → α → β) : ∀ (i : Nat) (l : List α), (mapI f i l).length = l.length
  | _, [] => rfl
  | i, a :: r => by simp [mapI, mapI_len f (i + 1) r]
theorem mapI_map {α β γ : Type} (f : Nat → β → γ) (g : α → β) : ∀ (i : Nat) (l : List α), mapI f i (l.map g) = mapI (fun i a => f i (g a)) i l
  | _, [] => rfl
  | i, a :: r => by simp [mapI, mapI_map f g (i + 1) r]
theorem map_mapI {α β γ : Type} (f : Nat → α → β) (g : β → γ) : ∀ (i : Nat) (l : List α), (mapI f i l).map g = mapI (fun i a => g (f i a)) i l
  | _, [] => rfl
  | i, a :: r => by simp [mapI, map_mapI f g (i + 1) r]
theorem mapI_get {α β : Type} (f : Nat → α → β) : ∀ (j : Nat) (l : List α) (i : Nat), (mapI f j l)[i]? = (l[i]?).map (f (j + i))
  | _, [], i => by simp [mapI]
  | j, a :: r, 0 => by simp [mapI]
  | j, a :: r, i + 1 => by
    simp only [mapI, List.getElem?_cons_succ, mapI_get f (j + 1) r i]
    rw [show j + 1 + i = j + (i + 1) by omega]
theorem mapI_congr {α β : Type} {f g : Nat → α → β} : ∀ {j : Nat} {l : List α}, (∀ i a, l[i]? = some a → f (j + i) a = g (j + i) a) → mapI f j l = mapI g j l
  | _, [], _ => rfl
  | j, a :: r, h => by
    have h0 := h 0 a rfl
    simp only [Nat.add_zero] at h0
    simp only [mapI, h0]
    congr 1
    refine mapI_congr fun i b hb => ?_
    have := h (i + 1) b (by simpa using hb)
    rwa [show j + (i + 1) = j + 1 + i by omega] at this
theorem mapI_mapI {α β γ : Type} (f : Nat → β → γ) (g : Nat → α → β) : ∀ (i : Nat) (l : List α), mapI f i (mapI g i l) = mapI (fun i a => f i (g i a)) i l
  | _, [] => rfl
  | i, a :: r => by simp [mapI, mapI_mapI f g (i + 1) r]
theorem mapI_mem {α β : Type} {f : Nat → α → β} {j : Nat} {l : List α} {b : β} (h : b ∈ mapI f j l) : ∃ i a, l[i]? = some a ∧ b = f (j + i) a := by
  obtain ⟨i, hi⟩ := List.mem_iff_getElem?.mp h
  rw [mapI_get] at hi
  cases e : l[i]? with
  | none => rw [e] at hi; cases hi
  | some a => rw [e] at hi; simp at hi; exact ⟨i, a, e, hi.symm⟩
structure Le (b b' : Bx) : Prop where
  w : b.w ≤ b'.w
  u : b.u ≤ b'.u
  d : b.d ≤ b'.d
theorem Le.trans {a b c : Bx} (h : Le a b) (g : Le b c) : Le a c := ⟨Int.le_trans h.w g.w, Int.le_trans h.u g.u, Int.le_trans h.d g.d⟩
end SM

namespace SM
open PL
section
variable {T : Tab}
structure FrT (T : Tab) : Prop extends WpT T where
  opened : T.lookup 139 = some Fn.f_opened
  freed : T.lookup 140 = some Fn.f_freed
  freed_parts : T.lookup 141 = some Fn.f_freed_parts
theorem enumL_mapI : ∀ (k : Nat) (l : List Sm), enumL k (l.map enc) = (mapI (fun i p => (i, p)) k l).map fun (x : Nat × Sm) => .tup [.int (x.1 : Int), enc x.2]
  | _, [] => rfl
  | k, a :: r => by simp [enumL, mapI, enumL_mapI (k + 1) r]
end
end SM

namespace SM
open PL
end SM

namespace SM
open PL
section
variable {T : Tab}
structure LgT (T : Tab) : Prop extends WwT T where
  box : BoxT T
  longest : T.lookup 143 = some Fn.f_longest
end
noncomputable def keyV (a : Int) (w : List Nat) : PV := .tup [.int a, encW w]
section
variable {T : Tab}
end
end SM

namespace SM
open PL
/-- each once, rising -/
noncomputable def srtW (l : List (List Nat)) : List (List Nat) := (ddL l).mergeSort fun a b => decide (a ≤ b)
theorem strsV_mapW : ∀ l : List (List Nat), strsV (l.map .str) = some l
  | [] => rfl
  | a :: l => by simp [strsV, strsV_mapW l]
theorem ssV_lst (l : List (List Nat)) (h : l.length + 1 < 4096) : ssV (.lst (l.map .str)) = some (.lst ((srtW l).map .str)) := by
  simp only [ssV, ssL, List.length_map, if_pos h]
  cases l with
  | nil => simp [intsV, srtW, ddL]
  | cons a l =>
    have e : intsV ((a :: l).map PV.str) = none := rfl
    rw [e, strsV_mapW]
    rfl
/-- the word at a way -/
noncomputable def wAt (s : Sm) (w : List Nat) : List (List Nat) := match partAt s w with
  | some (.nd (.word t) _) => [t]
  | _ => []
/-- all words as they come -/
noncomputable def wds : Sm → List (List Nat) := Sm.fold fun k _ rs => match k with
  | .word t => [t]
  | _ => rs.flatten
noncomputable def Kd.isWd : Kd → Bool
  | .word _ => true
  | _ => false
theorem wds_word (t : List Nat) (ps : List Sm) : wds (.nd (.word t) ps) = [t] := by rw [wds, fold_nd]
theorem wds_nd {k : Kd} (hk : k.isWd = false) (ps : List Sm) : wds (.nd k ps) = (ps.map wds).flatten := by
  rw [wds, fold_nd]
  cases k <;> simp [Kd.isWd] at hk ⊢
theorem wysL_wAt (k : Kd) (ps' : List Sm) : ∀ (ps : List Sm) (j : Nat), (∀ i p, ps[i]? = some p → ps'[j + i]? = some p) → (wysL j (ps.map wys)).flatMap (wAt (.nd k ps')) = (ps.map fun p => (wys p).flatMap (wAt p)).flatten
  | [], _, _ => rfl
  | p :: ps, j, H => by
    have h0 : ps'[j]? = some p := by simpa using H 0 p rfl
    have ih := wysL_wAt k ps' ps (j + 1) fun i q hq => by
      have := H (i + 1) q (by simpa using hq)
      rw [show j + 1 + i = j + (i + 1) by omega]
      exact this
    simp only [List.map_cons, wysL, List.flatMap_append, List.flatten_cons, ih]
    congr 1
    rw [List.flatMap_map]
    congr 1
    funext v
    simp only [wAt, partAt, Sm.ps, h0]
theorem wys_wds (s : Sm) (h : Sh s) : (wys s).flatMap (wAt s) = wds s := by
  induction s using Sm.ind with
  | h k ps ih =>
    rw [wys_nd, List.flatMap_cons, wysL_wAt k ps ps 0 (fun i p hp => by simpa using hp)]
    cases hk : k.isWd with
    | true =>
      cases k <;> simp [Kd.isWd] at hk
      have : ps = [] := List.eq_nil_of_length_eq_zero h.kd
      subst this
      rw [wds_word]
      rfl
    | false =>
      rw [wds_nd hk]
      have e : wAt (.nd k ps) [] = [] := by
        cases k <;> simp [Kd.isWd] at hk <;> rfl
      rw [e, List.nil_append]
      congr 1
      exact List.map_congr_left fun p hp => ih p hp (h.mem p hp)
theorem filt_wAt (s : Sm) : ∀ l : List (List Nat), (l.filter fun w => !(wAt s w).isEmpty).map (fun w => PV.str ((wAt s w).headD [])) = (l.flatMap (wAt s)).map .str
  | [] => rfl
  | w :: l => by
    have ih := filt_wAt s l
    rw [List.flatMap_cons, List.map_append, ← ih]
    have : wAt s w = [] ∨ ∃ t, wAt s w = [t] := by
      unfold wAt
      split
      · exact .inr ⟨_, rfl⟩
      · exact .inl rfl
    rcases this with e | ⟨t, e⟩
    · simp [List.filter_cons, e]
    · simp [List.filter_cons, e]
theorem wys9 {s : Sm} (h : Gd s) : 8 * (wys s).length + 1 ≤ 9 ^ dp s := by
  induction s using Sm.ind with
  | h k ps ih =>
    rw [wys_nd, List.length_cons, wysL_len, dp_nd]
    have h2 := gd_len h.kd
    have key : ∀ l : List Sm, (∀ p ∈ l, 8 * (wys p).length + 1 ≤ 9 ^ maxN (ps.map dp)) → 8 * ((l.map wys).map List.length).sum + l.length ≤ l.length * 9 ^ maxN (ps.map dp) := by
      intro l
      induction l with
      | nil => simp
      | cons a l il =>
        intro hl
        have h1 := hl a (by simp)
        have h2 := il fun p hp => hl p (by simp [hp])
        simp only [List.map_cons, List.sum_cons, List.length_cons, Nat.succ_mul]
        omega
    have h1 := key ps fun p hp => Nat.le_trans (ih p hp (h.mem p hp)) (Nat.pow_le_pow_right (by omega) (le_maxN (List.mem_map_of_mem hp)))
    have h4 : 1 ≤ 9 ^ maxN (ps.map dp) := Nat.one_le_pow _ _ (by omega)
    rw [Nat.pow_succ]
    have h5 : ps.length * 9 ^ maxN (ps.map dp) + (9 - ps.length) * 9 ^ maxN (ps.map dp) = 9 * 9 ^ maxN (ps.map dp) := by rw [← Nat.add_mul]; congr 1; omega
    have h6 : (9 - ps.length) * 1 ≤ (9 - ps.length) * 9 ^ maxN (ps.map dp) := Nat.mul_le_mul_left _ h4
    omega
noncomputable def fit (k : Kd) (i : Nat) (r : Sm) : Sm := if mayBe k i r then r else .nd .held [r]
noncomputable def pin (t : List Nat) (new : Sm) : Sm → Sm := Sm.fold fun k _ rs => match k with
  | .word u => if u = t then new else .nd (.word u) []
  | k => .nd k (mapI (fun i r => fit k i r) 0 rs)
theorem pin_word (t u : List Nat) (new : Sm) (ps : List Sm) : pin t new (.nd (.word u) ps) = if u = t then new else .nd (.word u) [] := by rw [pin, fold_nd]
theorem pin_nd {k : Kd} (hk : k.isWd = false) (t : List Nat) (new : Sm) (ps : List Sm) : pin t new (.nd k ps) = .nd k (mapI (fun i p => fit k i (pin t new p)) 0 ps) := by
  rw [pin, fold_nd]
  cases k <;> simp [Kd.isWd] at hk <;> simp [mapI_map]
theorem fit_gd {k : Kd} {i : Nat} {r : Sm} (h : Gd r) : Gd (fit k i r) := by
  unfold fit
  split
  · exact h
  · exact .nd rfl (by simp [h])
theorem fit_may (k : Kd) (i : Nat) (r : Sm) : mayBe k i (fit k i r) = true := by
  unfold fit
  split
  · assumption
  · cases k <;> simp [mayBe, Sm.isChain, Sm.isBase]
theorem pin_gd {s new : Sm} (t : List Nat) (h : Gd s) (hn : Gd new) : Gd (pin t new s) := by
  induction s using Sm.ind with
  | h k ps ih =>
    cases hk : k.isWd with
    | true =>
      cases k <;> simp [Kd.isWd] at hk
      rw [pin_word]
      split
      · exact hn
      · have := h.kd
        exact .nd ⟨rfl, this.2⟩ (by simp)
    | false =>
      rw [pin_nd hk]
      refine .nd ?_ fun q hq => ?_
      · have g := h.kd
        cases k with
        | word u => simp [Kd.isWd] at hk
        | chain ss =>
          obtain ⟨g1, g2, g3, g4, g5⟩ := g
          refine ⟨by rw [mapI_len]; exact g1, g2, g3, g4, fun q hq => ?_⟩
          obtain ⟨i, a, ha, rfl⟩ := mapI_mem hq
          have := fit_may (.chain ss) (0 + i) (pin t new a)
          simpa [mayBe] using this
        | over => simpa [Kd.gd, mapI_len] using g
        | root => simpa [Kd.gd, mapI_len] using g
        | held => simpa [Kd.gd, mapI_len] using g
        | script u d =>
          obtain ⟨g1, g2, g3⟩ := g
          refine ⟨g1, by rw [mapI_len]; exact g2, fun q hq => ?_⟩
          cases ps with
          | nil => simp [mapI] at hq
          | cons a ps =>
            simp only [mapI, List.head?_cons, Option.some.injEq] at hq
            subst hq
            have := fit_may (.script u d) 0 (pin t new a)
            simpa [mayBe] using this
        | table r c => exact ⟨g.1, g.2.1, by rw [mapI_len]; exact g.2.2⟩
      · obtain ⟨i, a, ha, rfl⟩ := mapI_mem hq
        have hm := List.mem_of_getElem? ha
        exact fit_gd (ih a hm (h.mem a hm))
/-- how deep it is behind that -/
theorem fit_dp (k : Kd) (i : Nat) (r : Sm) : dp (fit k i r) ≤ dp r + 1 := by
  unfold fit
  split
  · omega
  · rw [dp_nd]; simp [maxN]
theorem enc_word_eq {s : Sm} (h : Sh s) (t : List Nat) : enc s = .tup [.str [119, 111, 114, 100], .str t] ↔ s = .nd (.word t) [] := by
  cases s with
  | nd k ps =>
    obtain ⟨vs, e⟩ := enc_cons (.nd k ps)
    cases k with
    | word u =>
      have : ps = [] := List.eq_nil_of_length_eq_zero h.kd
      subst this
      rw [enc_nd]
      simp [encK]
    | _ =>
      rw [e]
      simp [Sm.kd, Kd.name]
section
variable {T : Tab}
structure PiT (T : Tab) : Prop extends WpT T where
  fitted : T.lookup 137 = some Fn.f_fitted
  put_in : T.lookup 138 = some Fn.f_put_in
  words : T.lookup 142 = some Fn.f_words
theorem words_ok (h : WwT T) (hw : T.lookup 142 = some Fn.f_words) {s : Sm} (hs : Gd s) (hd : dp s ≤ 1000) (hz : (wys s).length + 1 < 4096) (n : Nat) (hn : 2 * dp s + 5 ≤ n) (st : Sto) : callF T n 142 [enc s] st = .ok (.tup ((srtW (wds s)).map .str)) st := by
  obtain ⟨n, rfl⟩ : ∃ j, n = j + 4 := ⟨n - 4, by omega⟩
  rw [callF_of hw, runD_of rfl]
  have wy := ways_ok h s hs.sh hd (by omega) (n + 3) (by omega) st
  have hz2 : (wys s).length ≤ 16777216 := by omega
  have hlen : (wds s).length + 1 < 4096 := by
    have e := congrArg List.length (filt_wAt s (wys s))
    rw [wys_wds s hs.sh] at e
    simp only [List.length_map] at e
    have := List.length_filter_le (fun w => !(wAt s w).isEmpty) (wys s)
    omega
  simp [Fn.f_words, start, wy, SZ_val, hz2]
  rw [comp_filter encW (fun w => .str ((wAt s w).headD [])) (fun w => !(wAt s w).isEmpty) (wys s) (fun w hw => by
    obtain ⟨p, hp, gp, _⟩ := wys_part hw hs
    have hpart := part_at_ok h n hs.sh hp st
    have hk := kindS h.toKpT (n + 2) p st
    cases p with
    | nd k ps =>
      obtain ⟨vs, e⟩ := enc_cons (.nd k ps)
      simp only [Sm.kd] at hk e
      cases k with
      | word t =>
        have : ps = [] := List.eq_nil_of_length_eq_zero gp.sh.kd
        subst this
        have ee : enc (.nd (.word t) []) = .tup [.str [119, 111, 114, 100], .str t] := by rw [enc_nd]; rfl
        rw [ee] at hpart hk
        simp [hpart, hk, Kd.name, wAt, hp]
      | _ => simp [hpart, hk, Kd.name, wAt, hp])]
  rw [filt_wAt, wys_wds s hs.sh]
  have e := ssV_lst (wds s) hlen
  simp [SZ_val, show (wds s).length ≤ 16777216 by omega, u1V, e]
theorem fitted_ok (h : PiT T) (n : Nat) (s new : Sm) (i : Nat) (st : Sto) : callF T (n + 3) 137 [enc s, .int (i : Int), enc new] st = .ok (enc (fit s.kd i new)) st := by
  rw [callF_of h.fitted, runD_of rfl]
  have hm := may_ok h.toWpT n s new i st
  unfold fit
  cases hb : mayBe s.kd i new with
  | true =>
    rw [hb] at hm
    simp [Fn.f_fitted, start, hm]
  | false =>
    rw [hb] at hm
    simp [Fn.f_fitted, start, hm, enc_nd, encK, SZ_val]
theorem put_in_ok (h : PiT T) {t : List Nat} (ht : ∀ c ∈ t, c < 1114112) (new : Sm) : ∀ (m : Nat) (s : Sm), Gd s → dp s ≤ m → m ≤ 20 → ∀ n st, m + 5 ≤ n → callF T n 138 [enc s, .str t, enc new] st = .ok (enc (pin t new s)) st
  | 0, s, _, hd, _ => by have := dp_pos s; omega
  | m + 1, .nd k ps, hg, hd, hm => fun n st hn => by
    obtain ⟨n, rfl⟩ : ∃ j, n = j + 4 := ⟨n - 4, by omega⟩
    rw [callF_of h.put_in, runD_of rfl]
    have hs := hg.sh
    have hp := parts_ok h.toKpT (n + 1) (.nd k ps) hs st
    simp only [Sm.ps] at hp
    have hlen := hs.len
    have hl2 : ps.length ≤ 16777216 := by omega
    have hfw : (PV.tup [.str [119, 111, 114, 100], .str t]).fine = true := by
      simp only [PV.fine, PV.fines, List.all_eq_true, decide_eq_true_eq, Bool.and_true, Bool.and_eq_true]
      exact ⟨by simp, ht⟩
    have ed := enc_data hg
    obtain ⟨b, heq, hb⟩ := eqV_iff ed.1 hfw (by omega) (by simp [PV.deep, PV.deeps])
    have hiff := enc_word_eq hs t
    cases hk : k.isWd with
    | true =>
      cases k <;> simp [Kd.isWd] at hk
      rename_i u
      have : ps = [] := List.eq_nil_of_length_eq_zero hs.kd
      subst this
      rw [pin_word]
      by_cases hu : u = t
      · subst hu
        rw [hb.mpr (hiff.mpr rfl)] at heq
        simp [Fn.f_put_in, start, SZ_val, heq]
      · have hne : ¬ enc (.nd (.word u) []) = .tup [.str [119, 111, 114, 100], .str t] := fun z => hu (by have := hiff.mp z; simp at this; exact this)
        rw [show b = false by cases b with | false => rfl | true => exact absurd (hb.mp rfl) hne] at heq
        have hw := with_ok h.toWpT (n + 1) (.word u) [] [] hs rfl st
        simp only [List.map_nil] at hw hp
        rw [if_neg hu]
        simp [Fn.f_put_in, start, SZ_val, heq, hp, hw, enumL]
    | false =>
      have hne : ¬ enc (.nd k ps) = .tup [.str [119, 111, 114, 100], .str t] := fun z => by
        have := hiff.mp z
        simp at this
        rw [this.1] at hk
        simp [Kd.isWd] at hk
      rw [show b = false by cases b with | false => rfl | true => exact absurd (hb.mp rfl) hne] at heq
      rw [pin_nd hk]
      simp [Fn.f_put_in, start, hp, enumL_mapI, SZ_val, heq]
      rw [comp_map (fun (x : Nat × Sm) => .tup [.int (x.1 : Int), enc x.2]) (fun (x : Nat × Sm) => enc (fit k x.1 (pin t new x.2))) (mapI (fun i p => (i, p)) 0 ps) (fun x hx => by
        obtain ⟨i, a, ha, rfl⟩ := mapI_mem hx
        have hm' := List.mem_of_getElem? ha
        have hda := dp_lt (k := k) hm'
        have ih := put_in_ok h ht new m a (hg.mem a hm') (by omega) (by omega) (n + 3) st (by omega)
        have hf := fitted_ok h n (.nd k ps) (pin t new a) (0 + i) st
        simp only [Sm.kd] at hf
        simp at hf
        simp [ih, hf])]
      have hw := with_ok h.toWpT (n + 1) k ps (mapI (fun i p => fit k i (pin t new p)) 0 ps) hs (mapI_len _ _ _) st
      rw [map_mapI] at hw
      rw [map_mapI]
      simp [SZ_val, mapI_len, hl2, hw]
end
end SM

namespace SM
open PL
noncomputable def atoms : List (List Nat) := [[97], [98], [120, 49], [108, 111, 110, 103], [55], [97, 98, 99, 100, 101, 102]]
/-- so many words at most -/
noncomputable def cD : Nat → Nat
  | 0 => 1
  | 1 => 1
  | 2 => 9
  | 3 => 81
  | l + 4 => 4 * cD (l + 3)
theorem cD1 : ∀ l, 1 ≤ cD l
  | 0 => by simp [cD]
  | 1 => by simp [cD]
  | 2 => by simp [cD]
  | 3 => by simp [cD]
  | l + 4 => by have := cD1 (l + 3); simp only [cD]; omega
theorem cD4 : ∀ {l : Nat}, 1 ≤ l → 4 * cD l ≤ cD (l + 1)
  | 1, _ => by simp [cD]
  | 2, _ => by simp [cD]
  | l + 3, _ => by simp only [cD]; omega
theorem cD81 : ∀ l : Nat, 81 ≤ cD (l + 3)
  | 0 => by simp [cD]
  | l + 1 => by have := cD81 l; simp only [cD]; omega
theorem cD9 : ∀ {l : Nat}, 1 ≤ l → 9 * cD (min l 2) ≤ cD (l + 1)
  | 1, _ => by simp [cD]
  | 2, _ => by simp [cD]
  | l + 3, _ => by
    have := cD81 (l + 1)
    rw [show min (l + 3) 2 = 2 by omega]
    simp only [cD] at this ⊢
    omega
noncomputable def Wq (l : Nat) (s : Sm) : Prop := (∀ t ∈ wds s, t ∈ atoms) ∧ (wds s).length ≤ cD l
theorem wq_word {l : Nat} {t : List Nat} (h : t ∈ atoms) : Wq l (.nd (.word t) []) := by
  unfold Wq
  rw [wds_word]
  exact ⟨by simp [h], by simpa using cD1 l⟩
theorem flat_le {c : Nat} : ∀ (ps : List Sm), (∀ p ∈ ps, (wds p).length ≤ c) → ((ps.map wds).flatten).length ≤ ps.length * c
  | [], _ => by simp
  | p :: ps, h => by
    have h1 := h p (by simp)
    have h2 := flat_le ps fun q hq => h q (by simp [hq])
    simp only [List.map_cons, List.flatten_cons, List.length_append, List.length_cons, Nat.succ_mul]
    omega
theorem wq_nd {l m : Nat} {k : Kd} {ps : List Sm} (hk : k.isWd = false) (h : ∀ p ∈ ps, Wq m p) (hl : ps.length * cD m ≤ cD l) : Wq l (.nd k ps) := by
  unfold Wq
  rw [wds_nd hk]
  refine ⟨fun t ht => ?_, Nat.le_trans (flat_le ps fun p hp => (h p hp).2) hl⟩
  obtain ⟨x, hx, ht⟩ := List.mem_flatten.mp ht
  obtain ⟨p, hp, rfl⟩ := List.mem_map.mp hx
  exact (h p hp).1 t ht
section
variable {T : Tab}
theorem atom_q (h : DrawT T) (cell : Int) : ∃ t : List Nat, (Kd.word t).gd [] ∧ t ∈ atoms ∧ ∀ n st, callF T (n + 2) 9 [.int cell] st = .ok (enc (.nd (.word t) [])) st := by
  have h0 := mixI_nonneg (c := cell) (p := 9973) (m := 6) (by decide)
  have h1 := mixI_lt (c := cell) (p := 9973) (m := 6) (by decide)
  have key : ∃ t : List Nat, (Kd.word t).gd [] ∧ t ∈ atoms ∧ L2.atI [PV.str [97], .str [98], .str [120, 49], .str [108, 111, 110, 103], .str [55], .str [97, 98, 99, 100, 101, 102]] (mixI cell 9973 6) = some (.str t) := by
    have : mixI cell 9973 6 = 0 ∨ mixI cell 9973 6 = 1 ∨ mixI cell 9973 6 = 2 ∨ mixI cell 9973 6 = 3 ∨ mixI cell 9973 6 = 4 ∨ mixI cell 9973 6 = 5 := by omega
    rcases this with e | e | e | e | e | e <;> rw [e] <;> refine ⟨_, ?_, ?_, rfl⟩ <;> simp [Kd.gd, isLt, atoms]
  obtain ⟨t, g, ga, e⟩ := key
  refine ⟨t, g, ga, fun n st => ?_⟩
  rw [callF_of h.atom, runD_of rfl]
  simp [Fn.f_law_atom, start, SZ_val, mix_ok h, e, enc_nd, encK]
/-- draw at a depth -/
noncomputable def DrawQ (T : Tab) (left : Nat) : Prop := ∃ f : Int → Sm, ∀ cell, (Gd (f cell) ∧ Wq left (f cell)) ∧ dp (f cell) ≤ left ∧ ∀ n st, 3 * left + 2 ≤ n → callF T n 12 [.int cell, .int left] st = .ok (enc (f cell)) st
noncomputable def ItemQ (T : Tab) (left : Nat) : Prop := ∃ f : Int → Sm, ∀ cell, (Gd (f cell) ∧ Wq left (f cell)) ∧ dp (f cell) ≤ left ∧ (f cell).isChain = false ∧ ∀ n st, 3 * left + 1 ≤ n → callF T n 11 [.int cell, .int left] st = .ok (enc (f cell)) st
noncomputable def BaseQ (T : Tab) (left : Nat) : Prop := ∃ f : Int → Sm, ∀ cell, (Gd (f cell) ∧ Wq left (f cell)) ∧ dp (f cell) ≤ left ∧ (f cell).isBase = true ∧ ∀ n st, 3 * left ≤ n → callF T n 10 [.int cell, .int left] st = .ok (enc (f cell)) st
theorem base_q (h : DrawT T) (l : Nat) (ih : ∀ l', 1 ≤ l' → l' ≤ l → DrawQ T l') : BaseQ T (l + 1) := by
  unfold BaseQ
  refine choice (P := fun cell s => (Gd s ∧ Wq (l + 1) s) ∧ dp s ≤ l + 1 ∧ s.isBase = true ∧ ∀ n st, 3 * (l + 1) ≤ n → callF T n 10 [.int cell, .int ((l + 1 : Nat) : Int)] st = .ok (enc s) st) fun cell => ?_
  have w0 := mixI_nonneg (c := cell) (p := 9967) (m := 4) (by decide)
  have w1 := mixI_lt (c := cell) (p := 9967) (m := 4) (by decide)
  by_cases hA : l = 0 ∨ mixI cell 9967 4 < 2
  · obtain ⟨t, g, ga, e⟩ := atom_q h cell
    refine ⟨.nd (.word t) [], ⟨.nd g (by simp), wq_word ga⟩, by rw [dp_nd]; simp [maxN], rfl, fun n st hn => ?_⟩
    obtain ⟨n, rfl⟩ : ∃ m, n = m + 3 := ⟨n - 3, by omega⟩
    rw [callF_of h.base, runD_of rfl]
    rcases hA with hA | hA
    · subst hA
      simp [Fn.f_law_base, start, mix_ok h, e]
    · by_cases hl : l = 0
      · subst hl
        simp [Fn.f_law_base, start, mix_ok h, e]
      · have hl1 : ¬ ((l : Int) + 1 = 1) := by omega
        simp [Fn.f_law_base, start, mix_ok h, e, hA, hl1]
  · have hl : l ≠ 0 := fun z => hA (.inl z)
    have hl1 : ¬ ((l : Int) + 1 = 1) := by omega
    have hw : ¬ mixI cell 9967 4 < 2 := fun z => hA (.inr z)
    by_cases hB : mixI cell 9967 4 = 2
    · obtain ⟨f, hf⟩ := ih l (by omega) (Nat.le_refl l)
      obtain ⟨g, d, e⟩ := hf (cell * 3 + 1)
      refine ⟨.nd .held [f (cell * 3 + 1)], ⟨.nd rfl (by simp [g]), wq_nd rfl (m := l) (by simp [g]) (by have := cD4 (l := l) (by omega); simp only [List.length_cons, List.length_nil]; omega)⟩, dp_le (by simp [d]), rfl, fun n st hn => ?_⟩
      obtain ⟨n, rfl⟩ : ∃ m, n = m + 1 := ⟨n - 1, by omega⟩
      have e' := e n st (by omega)
      have s3 : small64 3 = true := by decide
      rw [callF_of h.base, runD_of rfl]
      obtain ⟨n, rfl⟩ : ∃ m, n = m + 1 := ⟨n - 1, by omega⟩
      simp [Fn.f_law_base, start, mix_ok h, hl1, hB, SZ_val, s3, e', enc_nd, encK]
    · have hC : mixI cell 9967 4 = 3 := by omega
      have hm : ((min l 2 : Nat) : Int) = min (l : Int) 2 := by omega
      obtain ⟨f, hf⟩ := ih (min l 2) (by omega) (by omega)
      have c0 := mixI_nonneg (c := cell) (p := 9949) (m := 3) (by decide)
      have c1 := mixI_lt (c := cell) (p := 9949) (m := 3) (by decide)
      have r0 := mixI_nonneg (c := cell) (p := 9941) (m := 3) (by decide)
      have r1 := mixI_lt (c := cell) (p := 9941) (m := 3) (by decide)
      generalize hcn : (1 + mixI cell 9949 3).toNat = C
      generalize hrn : (1 + mixI cell 9941 3).toNat = R
      have eC : 1 + mixI cell 9949 3 = (C : Int) := by omega
      have eR : 1 + mixI cell 9941 3 = (R : Int) := by omega
      have hC3 : 1 ≤ C ∧ C ≤ 3 := by omega
      have hR3 : 1 ≤ R ∧ R ≤ 3 := by omega
      have sR : small62 (R : Int) = true := small62_of (by omega) (by omega)
      generalize hrows : ((List.range R).map fun (k : Nat) => (List.range C).map fun (j : Nat) => f (cell * 3 + 7 * (k : Int) + 5 * (j : Int) + 2)) = rows
      have hrl : rows.length = R := by rw [← hrows]; simp
      have hrow : ∀ r ∈ rows, r.length = C := fun r hr => by
        rw [← hrows] at hr
        obtain ⟨k, _, rfl⟩ := List.mem_map.mp hr
        simp
      have hmem : ∀ p ∈ rows.flatten, ∃ c, p = f c := fun p hp => by
        rw [← hrows] at hp
        obtain ⟨r, hr, hp⟩ := List.mem_flatten.mp hp
        obtain ⟨k, _, rfl⟩ := List.mem_map.mp hr
        obtain ⟨j, _, rfl⟩ := List.mem_map.mp hp
        exact ⟨_, rfl⟩
      refine ⟨.nd (.table R C) rows.flatten, ⟨.nd ⟨hR3, hC3, ?_⟩ fun p hp => ?_, wq_nd rfl (m := min l 2) (fun p hp => by obtain ⟨c, rfl⟩ := hmem p hp; exact (hf c).1.2) ?_⟩, dp_le fun p hp => ?_, rfl, fun n st hn => ?_⟩
      · rw [flat_len _ C hrow, hrl]
      · obtain ⟨c, rfl⟩ := hmem p hp
        exact (hf c).1.1
      · rw [flat_len _ C hrow, hrl]
        have h9 := cD9 (l := l) (by omega)
        have h1 : R * C ≤ 3 * 3 := Nat.mul_le_mul hR3.2 hC3.2
        exact Nat.le_trans (Nat.mul_le_mul_right _ h1) h9
      · obtain ⟨c, rfl⟩ := hmem p hp
        have := (hf c).2.1
        omega
      · obtain ⟨n, rfl⟩ : ∃ m, n = m + 1 := ⟨n - 1, by omega⟩
        have e' : ∀ c, callF T n 12 [.int c, .int (min (l : Int) 2)] st = .ok (enc (f c)) st := fun c => by
          rw [← hm]
          exact (hf c).2.2 n st (by omega)
        obtain ⟨x', y', q⟩ := rowsLoop (cell := cell) (l := (l : Int)) (C := C) (w := some (.int (mixI cell 9967 4))) hC3.2 e' (List.range R) [] none none (by simp; omega)
        rw [callF_of h.base, runD_of rfl]
        obtain ⟨n, rfl⟩ : ∃ m, n = m + 1 := ⟨n - 1, by omega⟩
        rw [List.nil_append, hrows] at q
        simp at q
        have hch : chunk R C (rows.map (List.map enc)).flatten = rows.map (List.map enc) := by
          rw [← List.map_flatten, chunk_map, ← hrl, chunk_of rows C hrow]
        simp [Fn.f_law_base, start, mix_ok h, hl1, hC, SZ_val, eC, eR, sR, rngL_map]
        rw [hC] at q
        rw [q]
        simp [SZ_val, enc_nd, encK, hch, Function.comp_def]
theorem item_q (h : DrawT T) (l : Nat) (hb : BaseQ T (l + 1)) (hb' : 1 ≤ l → BaseQ T l) (hd : 1 ≤ l → DrawQ T l) : ItemQ T (l + 1) := by
  unfold ItemQ
  refine choice (P := fun cell s => (Gd s ∧ Wq (l + 1) s) ∧ dp s ≤ l + 1 ∧ s.isChain = false ∧ ∀ n st, 3 * (l + 1) + 1 ≤ n → callF T n 11 [.int cell, .int ((l + 1 : Nat) : Int)] st = .ok (enc s) st) fun cell => ?_
  have w0 := mixI_nonneg (c := cell) (p := 9931) (m := 8) (by decide)
  have w1 := mixI_lt (c := cell) (p := 9931) (m := 8) (by decide)
  obtain ⟨fb, hfb⟩ := hb
  have s3 : small64 3 = true := by decide
  by_cases hA : l = 0 ∨ mixI cell 9931 8 < 2
  · obtain ⟨g, d, b, e⟩ := hfb cell
    refine ⟨fb cell, g, d, base_item b, fun n st hn => ?_⟩
    obtain ⟨n, rfl⟩ : ∃ m, n = m + 1 := ⟨n - 1, by omega⟩
    have e' := e n st (by omega)
    obtain ⟨n, rfl⟩ : ∃ m, n = m + 1 := ⟨n - 1, by omega⟩
    rw [callF_of h.item, runD_of rfl]
    by_cases hl : l = 0
    · subst hl
      simp at e'
      simp [Fn.f_law_item, start, mix_ok h, e']
    · have hl1 : ¬ ((l : Int) + 1 = 1) := by omega
      have hw : mixI cell 9931 8 < 2 := by rcases hA with z | z; exact absurd z hl; exact z
      simp at e'
      simp [Fn.f_law_item, start, mix_ok h, e', hw, hl1]
  · have hl : 1 ≤ l := by
      rcases Nat.eq_zero_or_pos l with z | z
      · exact absurd (.inl z) hA
      · exact z
    have hl1 : ¬ ((l : Int) + 1 = 1) := by omega
    have hw : ¬ mixI cell 9931 8 < 2 := fun z => hA (.inr z)
    obtain ⟨fd, hfd⟩ := hd hl
    obtain ⟨fc, hfc⟩ := hb' hl
    by_cases h2 : mixI cell 9931 8 = 2
    · obtain ⟨g1, d1, e1⟩ := hfd (cell * 3 + 1)
      obtain ⟨g2, d2, e2⟩ := hfd (cell * 3 + 2)
      refine ⟨.nd .over [fd (cell * 3 + 1), fd (cell * 3 + 2)], ⟨.nd rfl (by simp [g1, g2]), wq_nd rfl (m := l) (by simp [g1, g2]) (by have := cD4 (l := l) (by omega); simp only [List.length_cons, List.length_nil]; omega)⟩, dp_le (by simp [d1, d2]), rfl, fun n st hn => ?_⟩
      obtain ⟨n, rfl⟩ : ∃ m, n = m + 1 := ⟨n - 1, by omega⟩
      have e1' := e1 n st (by omega)
      have e2' := e2 n st (by omega)
      obtain ⟨n, rfl⟩ : ∃ m, n = m + 1 := ⟨n - 1, by omega⟩
      rw [callF_of h.item, runD_of rfl]
      simp [Fn.f_law_item, start, mix_ok h, e1', e2', hw, hl1, h2, s3, SZ_val, enc_nd, encK]
    by_cases h3 : mixI cell 9931 8 = 3
    · obtain ⟨g1, d1, e1⟩ := hfd (cell * 3 + 1)
      refine ⟨.nd .root [fd (cell * 3 + 1)], ⟨.nd rfl (by simp [g1]), wq_nd rfl (m := l) (by simp [g1]) (by have := cD4 (l := l) (by omega); simp only [List.length_cons, List.length_nil]; omega)⟩, dp_le (by simp [d1]), rfl, fun n st hn => ?_⟩
      obtain ⟨n, rfl⟩ : ∃ m, n = m + 1 := ⟨n - 1, by omega⟩
      have e1' := e1 n st (by omega)
      obtain ⟨n, rfl⟩ : ∃ m, n = m + 1 := ⟨n - 1, by omega⟩
      rw [callF_of h.item, runD_of rfl]
      simp [Fn.f_law_item, start, mix_ok h, e1', hw, hl1, h3, s3, SZ_val, enc_nd, encK]
    by_cases h6 : mixI cell 9931 8 < 6
    · obtain ⟨g1, d1, e1⟩ := hfd (cell * 3 + 4)
      obtain ⟨g2, d2, e2⟩ := hfd (cell * 3 + 5)
      obtain ⟨g0, d0, b0, e0⟩ := hfc (cell + 1)
      have m0 := mixI_nonneg (c := cell) (p := 9929) (m := 3) (by decide)
      have m1 := mixI_lt (c := cell) (p := 9929) (m := 3) (by decide)
      by_cases hs0 : mixI cell 9929 3 = 0
      · refine ⟨.nd (.script false true) [fc (cell + 1), fd (cell * 3 + 5)], ⟨.nd ⟨rfl, rfl, by simp [b0]⟩ (by simp [g0, g2]), wq_nd rfl (m := l) (by simp [g0, g2]) (by have := cD4 (l := l) (by omega); simp only [List.length_cons, List.length_nil]; omega)⟩, dp_le (by simp [d0, d2]), rfl, fun n st hn => ?_⟩
        obtain ⟨n, rfl⟩ : ∃ m, n = m + 1 := ⟨n - 1, by omega⟩
        have e0' := e0 n st (by omega)
        have e1' := e1 n st (by omega)
        have e2' := e2 n st (by omega)
        obtain ⟨n, rfl⟩ : ∃ m, n = m + 1 := ⟨n - 1, by omega⟩
        rw [callF_of h.item, runD_of rfl]
        simp [Fn.f_law_item, start, mix_ok h, e0', e1', e2', hw, hl1, h2, h3, h6, hs0, s3, SZ_val, enc_nd, encK]
      by_cases hs1 : mixI cell 9929 3 = 1
      · refine ⟨.nd (.script true false) [fc (cell + 1), fd (cell * 3 + 4)], ⟨.nd ⟨rfl, rfl, by simp [b0]⟩ (by simp [g0, g1]), wq_nd rfl (m := l) (by simp [g0, g1]) (by have := cD4 (l := l) (by omega); simp only [List.length_cons, List.length_nil]; omega)⟩, dp_le (by simp [d0, d1]), rfl, fun n st hn => ?_⟩
        obtain ⟨n, rfl⟩ : ∃ m, n = m + 1 := ⟨n - 1, by omega⟩
        have e0' := e0 n st (by omega)
        have e1' := e1 n st (by omega)
        have e2' := e2 n st (by omega)
        obtain ⟨n, rfl⟩ : ∃ m, n = m + 1 := ⟨n - 1, by omega⟩
        rw [callF_of h.item, runD_of rfl]
        simp [Fn.f_law_item, start, mix_ok h, e0', e1', e2', hw, hl1, h2, h3, h6, hs0, hs1, s3, SZ_val, enc_nd, encK]
      · refine ⟨.nd (.script true true) [fc (cell + 1), fd (cell * 3 + 4), fd (cell * 3 + 5)], ⟨.nd ⟨rfl, rfl, by simp [b0]⟩ (by simp [g0, g1, g2]), wq_nd rfl (m := l) (by simp [g0, g1, g2]) (by have := cD4 (l := l) (by omega); simp only [List.length_cons, List.length_nil]; omega)⟩, dp_le (by simp [d0, d1, d2]), rfl, fun n st hn => ?_⟩
        obtain ⟨n, rfl⟩ : ∃ m, n = m + 1 := ⟨n - 1, by omega⟩
        have e0' := e0 n st (by omega)
        have e1' := e1 n st (by omega)
        have e2' := e2 n st (by omega)
        obtain ⟨n, rfl⟩ : ∃ m, n = m + 1 := ⟨n - 1, by omega⟩
        rw [callF_of h.item, runD_of rfl]
        simp [Fn.f_law_item, start, mix_ok h, e0', e1', e2', hw, hl1, h2, h3, h6, hs0, hs1, s3, SZ_val, enc_nd, encK]
    · obtain ⟨g, d, b, e⟩ := hfb (cell + 1)
      refine ⟨fb (cell + 1), g, d, base_item b, fun n st hn => ?_⟩
      obtain ⟨n, rfl⟩ : ∃ m, n = m + 1 := ⟨n - 1, by omega⟩
      have e' := e n st (by omega)
      obtain ⟨n, rfl⟩ : ∃ m, n = m + 1 := ⟨n - 1, by omega⟩
      rw [callF_of h.item, runD_of rfl]
      simp at e'
      simp [Fn.f_law_item, start, mix_ok h, e', hw, hl1, h2, h3, h6]
theorem draw_q (h : DrawT T) (l : Nat) (hi : ItemQ T (l + 1)) (hi' : 1 ≤ l → ItemQ T l) : DrawQ T (l + 1) := by
  unfold DrawQ
  refine choice (P := fun cell s => (Gd s ∧ Wq (l + 1) s) ∧ dp s ≤ l + 1 ∧ ∀ n st, 3 * (l + 1) + 2 ≤ n → callF T n 12 [.int cell, .int ((l + 1 : Nat) : Int)] st = .ok (enc s) st) fun cell => ?_
  obtain ⟨fi, hfi⟩ := hi
  by_cases hA : 1 ≤ l ∧ mixI cell 9923 3 = 0
  · obtain ⟨hl, hz⟩ := hA
    have hl1 : (1 : Int) < (l : Int) + 1 := by omega
    obtain ⟨f, hf⟩ := hi' hl
    have r0 := mixI_nonneg (c := cell) (p := 9907) (m := 3) (by decide)
    have r1 := mixI_lt (c := cell) (p := 9907) (m := 3) (by decide)
    have s2 : small64 2 = true := by decide
    generalize hrn : (1 + mixI cell 9907 3).toNat = R
    have eR : 1 + mixI cell 9907 3 = (R : Int) := by omega
    have hR3 : 1 ≤ R ∧ R ≤ 3 := by omega
    have sR : small62 (R : Int) = true := small62_of (by omega) (by omega)
    generalize hall : ((List.range R).map fun (k : Nat) => ([sgI (mixI (cell + (k : Int)) 9901 5)], f (cell * 2 + 11 * (k : Int) + 3))) = all
    have hlen : all.length = R := by rw [← hall]; simp
    have hmem : ∀ p ∈ all, p.1 ∈ signs ∧ ∃ c, p.2 = f c := fun p hp => by
      rw [← hall] at hp
      obtain ⟨k, _, rfl⟩ := List.mem_map.mp hp
      exact ⟨(sgI_at (mixI_nonneg (by decide)) (mixI_lt (by decide))).2, _, rfl⟩
    refine ⟨.nd (.chain (all.map (·.1))) (f (cell * 2 + 1) :: all.map (·.2)), ⟨.nd ⟨by simp, by simp [hlen, hR3], by simp [hlen]; omega, ?_, ?_⟩ ?_, wq_nd rfl (m := l) ?_ ?_⟩, dp_le ?_, fun n st hn => ?_⟩
    · intro s hs
      obtain ⟨p, hp, rfl⟩ := List.mem_map.mp hs
      exact (hmem p hp).1
    · intro s hs
      rcases List.mem_cons.mp hs with z | z
      · subst z; exact (hf _).2.2.1
      · obtain ⟨p, hp, rfl⟩ := List.mem_map.mp z
        obtain ⟨c, e⟩ := (hmem p hp).2
        rw [e]; exact (hf _).2.2.1
    · intro s hs
      rcases List.mem_cons.mp hs with z | z
      · subst z; exact (hf _).1.1
      · obtain ⟨p, hp, rfl⟩ := List.mem_map.mp z
        obtain ⟨c, e⟩ := (hmem p hp).2
        rw [e]; exact (hf _).1.1
    · intro s hs
      rcases List.mem_cons.mp hs with z | z
      · subst z; exact (hf _).1.2
      · obtain ⟨p, hp, rfl⟩ := List.mem_map.mp z
        obtain ⟨c, e⟩ := (hmem p hp).2
        rw [e]; exact (hf _).1.2
    · have h4 := cD4 (l := l) hl
      have h1 : (f (cell * 2 + 1) :: all.map (·.2)).length ≤ 4 := by simp [hlen]; omega
      exact Nat.le_trans (Nat.mul_le_mul_right _ h1) h4
    · intro s hs
      rcases List.mem_cons.mp hs with z | z
      · subst z; exact (hf _).2.1
      · obtain ⟨p, hp, rfl⟩ := List.mem_map.mp z
        obtain ⟨c, e⟩ := (hmem p hp).2
        rw [e]; exact (hf _).2.1
    · obtain ⟨n, rfl⟩ : ∃ m, n = m + 2 := ⟨n - 2, by omega⟩
      have e' : ∀ c, callF T (n + 1) 11 [.int c, .int (l : Int)] st = .ok (enc (f c)) st := fun c => (hf c).2.2.2 (n + 1) st (by omega)
      obtain ⟨x', y', q⟩ := chainLoop h (cell := cell) e' (List.range R) [] none none (by simp; omega)
      rw [List.nil_append, hall] at q
      simp at q
      rw [callF_of h.draw, runD_of rfl]
      simp [Fn.f_law_draw, start, mix_ok h, hl1, hz, SZ_val, eR, sR, rngL_map]
      rw [q]
      have hpr := pairs_of all
      simp at hpr
      simp [SZ_val, enc_nd, encK, e', s2, hpr]
  · obtain ⟨g, d, _, e⟩ := hfi cell
    refine ⟨fi cell, g, d, fun n st hn => ?_⟩
    obtain ⟨n, rfl⟩ : ∃ m, n = m + 1 := ⟨n - 1, by omega⟩
    have e' := e n st (by omega)
    obtain ⟨n, rfl⟩ : ∃ m, n = m + 1 := ⟨n - 1, by omega⟩
    simp at e'
    rw [callF_of h.draw, runD_of rfl]
    by_cases hl : l = 0
    · subst hl
      simp at e'
      simp [Fn.f_law_draw, start, mix_ok h, e']
    · have hl1 : (1 : Int) < (l : Int) + 1 := by omega
      have hz : ¬ mixI cell 9923 3 = 0 := fun z => hA ⟨by omega, z⟩
      simp [Fn.f_law_draw, start, mix_ok h, e', hl1, hz]
theorem draws_q (h : DrawT T) : ∀ l, BaseQ T (l + 1) ∧ ItemQ T (l + 1) ∧ DrawQ T (l + 1) := by
  intro l
  induction l using Nat.strongRecOn with
  | _ l ih =>
    have D : ∀ l', 1 ≤ l' → l' ≤ l → DrawQ T l' := fun l' h1 h2 => by
      obtain ⟨k, rfl⟩ : ∃ k, l' = k + 1 := ⟨l' - 1, by omega⟩
      exact (ih k (by omega)).2.2
    have b := base_q h l D
    have i := item_q h l b (fun hl => by
      obtain ⟨k, rfl⟩ : ∃ k, l = k + 1 := ⟨l - 1, by omega⟩
      exact (ih k (by omega)).1) (fun hl => D l hl (Nat.le_refl l))
    exact ⟨b, i, draw_q h l i fun hl => by
      obtain ⟨k, rfl⟩ : ∃ k, l = k + 1 := ⟨l - 1, by omega⟩
      exact (ih k (by omega)).2.1⟩
end
end SM

namespace PL
noncomputable def kDgt4 (t : Bool) (o : PV) (k : List KP) (r : Res PV) : Res PV := r.bind fun y st4 => .ofO ((dctAt t st4 o).map fun kvs => (dlook kvs k).getD y) st4
noncomputable def kDgt3 (cf : CF) (t : Bool) (x : PX) (e : Env) (o : PV) (r : Res (List KP)) : Res PV := r.bind fun k st3 => kDgt4 t o k (ev cf x e st3)
noncomputable def kDgt2 (cf : CF) (t : Bool) (x : PX) (e : Env) (o : PV) (r : Res (List PV)) : Res PV := r.bind fun vs st2 => kDgt3 cf t x e o (.ofO (keyV t vs) st2)
noncomputable def kDgt (cf : CF) (t : Bool) (ks : PXs) (x : PX) (e : Env) (r : Res PV) : Res PV := r.bind fun o st1 => if (dctAt t st1 o).isSome then kDgt2 cf t x e o (evs cf ks e st1) else .stuck
noncomputable def kDat3 (t : Bool) (o : PV) (r : Res (List KP)) : Res PV := r.bind fun k st3 => .ofO ((dctAt t st3 o).bind fun kvs => dlook kvs k) st3
noncomputable def kDat2 (t : Bool) (o : PV) (r : Res (List PV)) : Res PV := r.bind fun vs st2 => kDat3 t o (.ofO (keyV t vs) st2)
noncomputable def kDat (cf : CF) (t : Bool) (ks : PXs) (e : Env) (r : Res PV) : Res PV := r.bind fun o st1 => kDat2 t o (evs cf ks e st1)
noncomputable def kDin3 (t n : Bool) (k : List KP) (r : Res PV) : Res PV := r.bind fun o st3 => .ofO ((dctAt t st3 o).map fun kvs => .bl ((dlook kvs k).isSome != n)) st3
noncomputable def kDin2 (cf : CF) (t n : Bool) (a : PX) (e : Env) (r : Res (List KP)) : Res PV := r.bind fun k st2 => kDin3 t n k (ev cf a e st2)
noncomputable def kDin (cf : CF) (t n : Bool) (a : PX) (e : Env) (r : Res (List PV)) : Res PV := r.bind fun vs st1 => kDin2 cf t n a e (.ofO (keyV t vs) st1)
noncomputable def kOrv2 (cf : CF) (b : PX) (e : Env) (x : PV) (r : Res Bool) : Res PV := r.bind fun k st2 => if k then .ok x st2 else ev cf b e st2
noncomputable def kOrv (cf : CF) (b : PX) (e : Env) (r : Res PV) : Res PV := r.bind fun x st1 => kOrv2 cf b e x (.ofO (truV (deref st1 x)) st1)
noncomputable def kDst5 (e : Env) : Option Sto → Out
  | some st => .next e st
  | none => .stuck
noncomputable def kDst4 (t : Bool) (e : Env) (y o : PV) (r : Res (List KP)) : Out := r.out e fun k st4 => kDst5 e (dsetV t y k st4 o)
noncomputable def kDst3 (t : Bool) (e : Env) (y o : PV) (r : Res (List PV)) : Out := r.out e fun vs st3 => kDst4 t e y o (.ofO (keyV t vs) st3)
noncomputable def kDst2 (cf : CF) (t : Bool) (ks : PXs) (e : Env) (y : PV) (r : Res PV) : Out := r.out e fun o st2 => kDst3 t e y o (evs cf ks e st2)
noncomputable def kDst (cf : CF) (t : Bool) (a : PX) (ks : PXs) (e : Env) (r : Res PV) : Out := r.out e fun y st1 => kDst2 cf t ks e y (ev cf a e st1)
section
variable {cf : CF} {e : Env} {st : Sto}
@[simp] theorem v_nd {t : Bool} : ev cf (.nd t) e st = .ok (.ref st.length) (st ++ [.dct t []]) := by simp only [ev]
@[simp] theorem v_dgt {t : Bool} {a x : PX} {ks : PXs} : ev cf (.dgt t a ks x) e st = kDgt cf t ks x e (ev cf a e st) := by simp only [ev]; rfl
@[simp] theorem v_dat {t : Bool} {a : PX} {ks : PXs} : ev cf (.dat t a ks) e st = kDat cf t ks e (ev cf a e st) := by simp only [ev]; rfl
@[simp] theorem v_din {t n : Bool} {a : PX} {ks : PXs} : ev cf (.din t n ks a) e st = kDin cf t n a e (evs cf ks e st) := by simp only [ev]; rfl
@[simp] theorem v_orv {a b : PX} : ev cf (.orv a b) e st = kOrv cf b e (ev cf a e st) := by simp only [ev]; rfl
@[simp] theorem r_dst {t : Bool} {a x : PX} {ks : PXs} : run cf (.dst t a ks x) e st = kDst cf t a ks e (ev cf x e st) := by
  simp only [run]
  rfl
@[simp] theorem k_dgt {t : Bool} {ks : PXs} {x : PX} {o : PV} : kDgt cf t ks x e (.ok o st) = if (dctAt t st o).isSome then kDgt2 cf t x e o (evs cf ks e st) else .stuck := (rfl)
@[simp] theorem k_dgt2 {t : Bool} {x : PX} {o : PV} {vs : List PV} : kDgt2 cf t x e o (.ok vs st) = kDgt3 cf t x e o (.ofO (keyV t vs) st) := (rfl)
@[simp] theorem k_dgt3 {t : Bool} {x : PX} {o : PV} {k : List KP} : kDgt3 cf t x e o (.ok k st) = kDgt4 t o k (ev cf x e st) := (rfl)
@[simp] theorem k_dgt4 {t : Bool} {o y : PV} {k : List KP} : kDgt4 t o k (.ok y st) = .ofO ((dctAt t st o).map fun kvs => (dlook kvs k).getD y) st := (rfl)
@[simp] theorem k_dat {t : Bool} {ks : PXs} {o : PV} : kDat cf t ks e (.ok o st) = kDat2 t o (evs cf ks e st) := (rfl)
@[simp] theorem k_dat2 {t : Bool} {o : PV} {vs : List PV} : kDat2 t o (.ok vs st) = kDat3 t o (.ofO (keyV t vs) st) := (rfl)
@[simp] theorem k_dat3 {t : Bool} {o : PV} {k : List KP} : kDat3 t o (.ok k st) = .ofO ((dctAt t st o).bind fun kvs => dlook kvs k) st := (rfl)
@[simp] theorem k_din {t n : Bool} {a : PX} {vs : List PV} : kDin cf t n a e (.ok vs st) = kDin2 cf t n a e (.ofO (keyV t vs) st) := (rfl)
@[simp] theorem k_din2 {t n : Bool} {a : PX} {k : List KP} : kDin2 cf t n a e (.ok k st) = kDin3 t n k (ev cf a e st) := (rfl)
@[simp] theorem k_din3 {t n : Bool} {k : List KP} {o : PV} : kDin3 t n k (.ok o st) = .ofO ((dctAt t st o).map fun kvs => .bl ((dlook kvs k).isSome != n)) st := (rfl)
@[simp] theorem k_orv {b : PX} {x : PV} : kOrv cf b e (.ok x st) = kOrv2 cf b e x (.ofO (truV (deref st x)) st) := (rfl)
@[simp] theorem k_orv2 {b : PX} {x : PV} {k : Bool} : kOrv2 cf b e x (.ok k st) = if k then .ok x st else ev cf b e st := (rfl)
@[simp] theorem k_dst {t : Bool} {a : PX} {ks : PXs} {y : PV} : kDst cf t a ks e (.ok y st) = kDst2 cf t ks e y (ev cf a e st) := (rfl)
@[simp] theorem k_dst2 {t : Bool} {ks : PXs} {y o : PV} : kDst2 cf t ks e y (.ok o st) = kDst3 t e y o (evs cf ks e st) := (rfl)
@[simp] theorem k_dst3 {t : Bool} {y o : PV} {vs : List PV} : kDst3 t e y o (.ok vs st) = kDst4 t e y o (.ofO (keyV t vs) st) := (rfl)
@[simp] theorem k_dst4 {t : Bool} {y o : PV} {k : List KP} : kDst4 t e y o (.ok k st) = kDst5 e (dsetV t y k st o) := (rfl)
@[simp] theorem k_dst5 {st' : Sto} : kDst5 e (some st') = .next e st' := (rfl)
end
@[simp] theorem key_ii (a b : Int) : keyV true [.int a, .int b] = some [.inl a, .inl b] := (rfl)
@[simp] theorem key_i (a : Int) : keyV false [.int a] = some [.inl a] := (rfl)
@[simp] theorem key_s (a : List Nat) : keyV false [.str a] = some [.inr a] := (rfl)
@[simp] theorem dlook_nil (k : List KP) : dlook [] k = none := rfl
end PL
namespace PL
noncomputable def kNcE (r : Res (List PV)) : Res PV := r.calm.bind fun vs st2 => .ok (.ref st2.length) (st2 ++ [.lst vs])
noncomputable def kNc (cf : CF) (t : Tg) (c : PT) (el : PX) (e : Env) (r : Res (List PV)) : Res PV := r.bind fun items st => if items.length ≤ SZ then kNcE (compL (compF cf t c el e) items st) else .stuck
section
variable {cf : CF} {e : Env} {st : Sto}
@[simp] theorem v_ncomp {own : List Nat} {t : Tg} {s : Src} {c : PT} {el : PX} : ev cf (.ncomp own t s c el) e st = kNc cf t c el (wipeR e own) (evI cf s e st) := by
  simp only [ev]
  rfl
@[simp] theorem k_nc {t : Tg} {c : PT} {el : PX} {items : List PV} : kNc cf t c el e (.ok items st) = if items.length ≤ SZ then kNcE (compL (compF cf t c el e) items st) else .stuck := (rfl)
@[simp] theorem k_nce {vs : List PV} : kNcE (.ok vs st) = .ok (.ref st.length) (st ++ [.lst vs]) := (rfl)
@[simp] theorem u1_sss (v : PV) : u1V .sss v = ssV v := (rfl)
@[simp] theorem u1_trg (v : PV) : u1V .trg v = trgV v := (rfl)
end
end PL

namespace SM
open PL
section
variable {T : Tab}
theorem size_ok (h : KpT T) (hz : T.lookup 23 = some Fn.f_size) (s : Sm) (hs : Sh s) : ∀ n, 2 * dp s + 1 ≤ n → ∀ st, callF T n 23 [enc s] st = .ok (.int ((wys s).length : Int)) st := by
  induction s using Sm.ind with
  | h k ps ih =>
    intro n hn st
    obtain ⟨m, rfl⟩ : ∃ m, n = m + 3 := ⟨n - 3, by have := dp_pos (.nd k ps); omega⟩
    have hlen := hs.len
    have hp := parts_ok h m (.nd k ps) hs st
    simp only [Sm.ps] at hp
    have hl : ps.length ≤ 16777216 := by omega
    rw [callF_of hz, runD_of rfl]
    simp [Fn.f_size, start, hp, SZ_val, hl]
    rw [comp_map enc (fun p => .int ((wys p).length : Int)) ps (fun p hp' => by
      have h1 := dp_lt (k := k) hp'
      simp [ih p hp' (hs.mem p hp') (m + 2) (by omega) st])]
    have e : (wys (.nd k ps)).length = 1 + ((ps.map wys).map List.length).sum := by rw [wys_nd, List.length_cons, wysL_len]; omega
    have e2 : ∀ ps : List Sm, (ps.map fun p => ((wys p).length : Int)).sum = ((((ps.map wys).map List.length).sum : Nat) : Int) := fun ps => by
      induction ps with
      | nil => rfl
      | cons a r ih => simp only [List.map_cons, List.sum_cons, ih]; omega
    simp [e, e2]
end
section
variable {T : Tab}
end
end SM
namespace SM
open PL
section
variable {T : Tab}
end
end SM

namespace SM
open PL
section
variable {T : Tab}
end
end SM

namespace PL
end PL

namespace SM
open PL
theorem wds_lt {s : Sm} (h : Gd s) : ∀ t ∈ wds s, 1 ≤ t.length ∧ t.length ≤ 6 ∧ ∀ c ∈ t, isLt c = true := by
  induction s using Sm.ind with
  | h k ps ih =>
    cases hk : k.isWd with
    | true =>
      cases k <;> simp [Kd.isWd] at hk
      rw [wds_word]
      intro t ht
      rw [List.mem_singleton] at ht
      subst ht
      exact h.kd.2
    | false =>
      rw [wds_nd hk]
      intro t ht
      obtain ⟨l, hl, ht⟩ := List.mem_flatten.mp ht
      obtain ⟨p, hp, rfl⟩ := List.mem_map.mp hl
      exact ih p hp (h.mem p hp) t ht
theorem srtW_mem (t : List Nat) (l : List (List Nat)) : t ∈ srtW l ↔ t ∈ l := by
  unfold srtW
  rw [List.mem_mergeSort, ddL_mem]
theorem srtW_len (l : List (List Nat)) : (srtW l).length ≤ l.length := by
  unfold srtW
  rw [List.length_mergeSort]
  induction l with
  | nil => simp [ddL]
  | cons a l ih =>
    simp only [ddL]
    split <;> simp <;> omega
theorem lt_uni {c : Nat} (h : isLt c = true) : c < 1114112 := by
  simp [isLt] at h
  omega
section
variable {T : Tab}
end
end SM

namespace SM
open PL
theorem may_gd {k : Kd} {ps : List Sm} (h : Gd (.nd k ps)) {i : Nat} {p : Sm} (hp : ps[i]? = some p) : mayBe k i p = true := by
  have g := h.kd
  cases k with
  | chain ss => simp [mayBe, g.2.2.2.2 p (List.mem_of_getElem? hp)]
  | script u d =>
    simp only [mayBe, Bool.or_eq_true, decide_eq_true_eq]
    cases i with
    | zero => right; exact g.2.2 p (by rw [List.head?_eq_getElem?]; exact hp)
    | succ i => left; omega
  | _ => rfl
theorem cls_kd {p q : Sm} (h : p.kd = q.kd) : p.isChain = q.isChain ∧ p.isBase = q.isBase := by
  cases p with
  | nd k ps =>
    cases q with
    | nd k' qs =>
      simp only [Sm.kd] at h
      subst h
      cases k <;> exact ⟨rfl, rfl⟩
theorem may_cls {k : Kd} {i : Nat} {p q : Sm} (h : p.isChain = q.isChain ∧ p.isBase = q.isBase) : mayBe k i p = mayBe k i q := by
  unfold mayBe
  cases k <;> simp [h.1, h.2]
theorem fit_same {k : Kd} {i : Nat} {p : Sm} (h : mayBe k i p = true) : fit k i p = p := by simp [fit, h]
theorem mapI_id {α : Type} : ∀ (j : Nat) (l : List α), mapI (fun _ a => a) j l = l
  | _, [] => rfl
  | j, a :: r => by simp [mapI, mapI_id (j + 1) r]
theorem mapI_const {α β : Type} (f : α → β) : ∀ (j : Nat) (l : List α), mapI (fun _ a => f a) j l = l.map f
  | _, [] => rfl
  | j, a :: r => by simp [mapI, mapI_const f (j + 1) r]
theorem pin_id {t : List Nat} {new : Sm} {s : Sm} (h : Gd s) (hn : t ∈ wds s → new = .nd (.word t) []) : pin t new s = s := by
  induction s using Sm.ind with
  | h k ps ih =>
    cases hk : k.isWd with
    | true =>
      cases k <;> simp [Kd.isWd] at hk
      rename_i u
      have : ps = [] := h.kd.1
      subst this
      rw [pin_word]
      split
      · rename_i e
        subst e
        exact hn (by rw [wds_word]; simp)
      · rfl
    | false =>
      rw [pin_nd hk]
      congr 1
      have : mapI (fun i p => fit k i (pin t new p)) 0 ps = mapI (fun _ p => p) 0 ps := mapI_congr fun i p hp => by
        have hm := List.mem_of_getElem? hp
        rw [ih p hm (h.mem p hm) fun ht => hn (by rw [wds_nd hk]; exact List.mem_flatten.mpr ⟨_, List.mem_map_of_mem hm, ht⟩)]
        rw [Nat.zero_add]
        exact fit_same (may_gd h hp)
      rw [this, mapI_id]
/-- its kind stays -/
theorem pin_kd {t : List Nat} {new s : Sm} (hs : Gd s) (h : s ≠ .nd (.word t) []) : (pin t new s).kd = s.kd := by
  cases s with
  | nd k ps =>
    cases hk : k.isWd with
    | true =>
      cases k <;> simp [Kd.isWd] at hk
      rename_i u
      have : ps = [] := hs.kd.1
      subst this
      rw [pin_word, if_neg (fun e => h (by rw [e]))]
    | false => rw [pin_nd hk]; rfl
theorem fit_pin {t : List Nat} {new p : Sm} {k : Kd} {ps : List Sm} {i : Nat} (h : Gd (.nd k ps)) (hp : ps[i]? = some p) (hne : p ≠ .nd (.word t) []) : fit k i (pin t new p) = pin t new p := by
  refine fit_same ?_
  rw [may_cls (cls_kd (pin_kd (h.mem p (List.mem_of_getElem? hp)) hne))]
  exact may_gd h hp
theorem fit_pinw {t z : List Nat} {p : Sm} {k : Kd} {ps : List Sm} {i : Nat} (h : Gd (.nd k ps)) (hp : ps[i]? = some p) : fit k i (pin t (.nd (.word z) []) p) = pin t (.nd (.word z) []) p := by
  by_cases hne : p = .nd (.word t) []
  · subst hne
    rw [pin_word, if_pos rfl]
    exact fit_same (by rw [may_cls (p := .nd (.word z) []) (q := .nd (.word t) []) ⟨rfl, rfl⟩]; exact may_gd h hp)
  · exact fit_pin h hp hne
theorem wyl_nd (k : Kd) (ps : List Sm) : (wys (.nd k ps)).length = 1 + (ps.map fun p => (wys p).length).sum := by
  rw [wys_nd, List.length_cons, wysL_len, List.map_map]
  simp [Function.comp_def]
  omega
theorem pin_size {t z : List Nat} {s : Sm} (h : Gd s) : (wys (pin t (.nd (.word z) []) s)).length = (wys s).length := by
  induction s using Sm.ind with
  | h k ps ih =>
    cases hk : k.isWd with
    | true =>
      cases k <;> simp [Kd.isWd] at hk
      have : ps = [] := h.kd.1
      subst this
      rw [pin_word]
      split <;> simp [wyl_nd]
    | false =>
      rw [pin_nd hk, wyl_nd, wyl_nd, map_mapI]
      congr 2
      have : mapI (fun i p => (wys (fit k i (pin t (.nd (.word z) []) p))).length) 0 ps = mapI (fun _ p => (wys p).length) 0 ps := mapI_congr fun i p hp => by
        have hm := List.mem_of_getElem? hp
        rw [Nat.zero_add, fit_pinw h hp, ih p hm (h.mem p hm)]
      rw [this, mapI_const]
theorem wds_held (r : Sm) : wds (.nd .held [r]) = wds r := by rw [wds_nd rfl]; simp
theorem wds_fit (k : Kd) (i : Nat) (r : Sm) : wds (fit k i r) = wds r := by
  unfold fit
  split
  · rfl
  · exact wds_held r
noncomputable def subW (t : List Nat) (new : Sm) (u : List Nat) : List (List Nat) := if u = t then wds new else [u]
theorem wds_pin (t : List Nat) (new s : Sm) : wds (pin t new s) = (wds s).flatMap (subW t new) := by
  induction s using Sm.ind with
  | h k ps ih =>
    cases hk : k.isWd with
    | true =>
      cases k <;> simp [Kd.isWd] at hk
      rename_i u
      rw [pin_word, wds_word]
      simp only [List.flatMap_cons, List.flatMap_nil, List.append_nil, subW]
      split
      · rfl
      · rw [wds_word]
    | false =>
      rw [pin_nd hk, wds_nd hk, wds_nd hk, map_mapI]
      have : mapI (fun i p => wds (fit k i (pin t new p))) 0 ps = mapI (fun _ p => (wds p).flatMap (subW t new)) 0 ps := mapI_congr fun i p hp => by
        rw [wds_fit, ih p (List.mem_of_getElem? hp)]
      rw [this, mapI_const]
      clear this ih
      induction ps with
      | nil => rfl
      | cons p ps il => simp [il]
theorem wds_pinw (t z : List Nat) (s : Sm) : wds (pin t (.nd (.word z) []) s) = (wds s).map fun u => if u = t then z else u := by
  rw [wds_pin]
  generalize wds s = l
  induction l with
  | nil => rfl
  | cons a l ih =>
    simp only [List.flatMap_cons, List.map_cons, ih, subW, wds_word]
    split <;> rfl
theorem flat_bound {f : List Nat → List (List Nat)} {c : Nat} : ∀ (l : List (List Nat)), (∀ u ∈ l, (f u).length ≤ c) → (l.flatMap f).length ≤ l.length * c
  | [], _ => by simp
  | a :: l, h => by
    have h1 := h a (by simp)
    have h2 := flat_bound l fun u hu => h u (by simp [hu])
    simp only [List.flatMap_cons, List.length_append, List.length_cons, Nat.succ_mul]
    omega
theorem pin_wl {t : List Nat} {new s : Sm} {a c : Nat} (h1 : (wds s).length ≤ a) (h2 : (wds new).length ≤ c) (h3 : 1 ≤ c) : (wds (pin t new s)).length ≤ a * c := by
  rw [wds_pin]
  refine Nat.le_trans (flat_bound _ fun u _ => ?_) (Nat.mul_le_mul_right c h1)
  unfold subW
  split
  · exact h2
  · simpa using h3
end SM

namespace PL
noncomputable def kDav3 (o : PV) (r : Res (List KP)) : Res PV := r.bind fun ky st3 => .ofO ((dctW st3 o).bind fun kvs => dlook kvs ky) st3
noncomputable def kDav2 (o : PV) (r : Res PV) : Res PV := r.bind fun kv st2 => kDav3 o (.ofO (tupK kv) st2)
noncomputable def kDav (cf : CF) (k : PX) (e : Env) (r : Res PV) : Res PV := r.bind fun o st1 => kDav2 o (ev cf k e st1)
noncomputable def kDnv3 (n : Bool) (ky : List KP) (r : Res PV) : Res Bool := r.bind fun o st3 => .ofO ((dctW st3 o).map fun kvs => ((dlook kvs ky).isSome != n)) st3
noncomputable def kDnv2 (cf : CF) (n : Bool) (a : PX) (e : Env) (r : Res (List KP)) : Res Bool := r.bind fun ky st2 => kDnv3 n ky (ev cf a e st2)
noncomputable def kDnv (cf : CF) (n : Bool) (a : PX) (e : Env) (r : Res PV) : Res Bool := r.bind fun kv st1 => kDnv2 cf n a e (.ofO (tupK kv) st1)
noncomputable def kDk (r : Res PV) : Res (List PV) := r.bind fun x st1 => .ofO ((fdcAt st1 x).bind dkL) st1
noncomputable def kDsv4 (e : Env) (y o : PV) (r : Res (List KP)) : Out := r.out e fun ky st4 => kDst5 e (dsetV true y ky st4 o)
noncomputable def kDsv3 (e : Env) (y o : PV) (r : Res PV) : Out := r.out e fun kv st3 => kDsv4 e y o (.ofO (tupK kv) st3)
noncomputable def kDsv2 (cf : CF) (k : PX) (e : Env) (y : PV) (r : Res PV) : Out := r.out e fun o st2 => kDsv3 e y o (ev cf k e st2)
noncomputable def kDsv (cf : CF) (a k : PX) (e : Env) (r : Res PV) : Out := r.out e fun y st1 => kDsv2 cf k e y (ev cf a e st1)
noncomputable def kNdc2 (r : Res DC) : Res PV := r.bind fun kvs st2 => if decide (kvs.length ≤ SZ) && decide (kvs.map (·.1)).Nodup then .ok (.ref st2.length) (st2 ++ [.dct true kvs]) else .stuck
noncomputable def kNdc (r : Res PV) : Res PV := r.bind fun x st1 => kNdc2 (.ofO (prsV x) st1)
noncomputable def kIsc7 (cf : CF) (s1 s2 : PS) (e : Env) (xs ys : List (List Nat)) (z : List Nat) (r : Res (List (List Nat))) : Out := r.out e fun us st => if scB xs ys z us = true then run cf s1 e st else run cf s2 e st
noncomputable def kIsc6 (cf : CF) (s1 s2 : PS) (e : Env) (xs ys : List (List Nat)) (z : List Nat) (r : Res PV) : Out := r.out e fun u st => kIsc7 cf s1 s2 e xs ys z (.ofO (strT (15 - ys.length) u) st)
noncomputable def kIsc5 (cf : CF) (d : PX) (s1 s2 : PS) (e : Env) (xs ys : List (List Nat)) (r : Res (List Nat)) : Out := r.out e fun z st => kIsc6 cf s1 s2 e xs ys z (ev cf d e st)
noncomputable def kIsc4 (cf : CF) (i : Nat) (d : PX) (s1 s2 : PS) (e : Env) (xs : List (List Nat)) (r : Res (List (List Nat))) : Out := r.out e fun ys st => kIsc5 cf d s1 s2 e xs ys (.ofO (strO e[i]?) st)
noncomputable def kIsc3 (cf : CF) (i : Nat) (d : PX) (s1 s2 : PS) (e : Env) (xs : List (List Nat)) (r : Res PV) : Out := r.out e fun y st => kIsc4 cf i d s1 s2 e xs (.ofO (strT 7 y) st)
noncomputable def kIsc2 (cf : CF) (b : PX) (i : Nat) (d : PX) (s1 s2 : PS) (e : Env) (r : Res (List (List Nat))) : Out := r.out e fun xs st => kIsc3 cf i d s1 s2 e xs (ev cf b e st)
noncomputable def kIsc (cf : CF) (b : PX) (i : Nat) (d : PX) (s1 s2 : PS) (e : Env) (r : Res PV) : Out := r.out e fun x st => kIsc2 cf b i d s1 s2 e (.ofO (strT 1000 x) st)
section
variable {cf : CF} {e : Env} {st : Sto}
@[simp] theorem v_ndc {a : PX} : ev cf (.ndc a) e st = kNdc (ev cf a e st) := by simp only [ev]; rfl
@[simp] theorem k_ndc {x : PV} : kNdc (.ok x st) = kNdc2 (.ofO (prsV x) st) := (rfl)
@[simp] theorem v_dav {a k : PX} : ev cf (.dav a k) e st = kDav cf k e (ev cf a e st) := by simp only [ev]; rfl
@[simp] theorem t_dnv {n : Bool} {k a : PX} : evT cf (.dnv n k a) e st = kDnv cf n a e (ev cf k e st) := by simp only [evT]; rfl
@[simp] theorem i_dk {a : PX} : evI cf (.dk a) e st = kDk (ev cf a e st) := by simp only [evI]; rfl
@[simp] theorem r_dsv {a k x : PX} : run cf (.dsv a k x) e st = kDsv cf a k e (ev cf x e st) := by
  simp only [run]
  rfl
@[simp] theorem r_isc {a b d : PX} {i : Nat} {s1 s2 : PS} : run cf (.isc a b i d s1 s2) e st = kIsc cf b i d s1 s2 e (ev cf a e st) := by
  simp only [run]
  rfl
@[simp] theorem k_isc {b d : PX} {i : Nat} {s1 s2 : PS} {x : PV} : kIsc cf b i d s1 s2 e (.ok x st) = kIsc2 cf b i d s1 s2 e (.ofO (strT 1000 x) st) := (rfl)
@[simp] theorem k_isc2 {b d : PX} {i : Nat} {s1 s2 : PS} {xs : List (List Nat)} : kIsc2 cf b i d s1 s2 e (.ok xs st) = kIsc3 cf i d s1 s2 e xs (ev cf b e st) := (rfl)
@[simp] theorem k_isc3 {d : PX} {i : Nat} {s1 s2 : PS} {xs : List (List Nat)} {y : PV} : kIsc3 cf i d s1 s2 e xs (.ok y st) = kIsc4 cf i d s1 s2 e xs (.ofO (strT 7 y) st) := (rfl)
@[simp] theorem k_isc4 {d : PX} {i : Nat} {s1 s2 : PS} {xs ys : List (List Nat)} : kIsc4 cf i d s1 s2 e xs (.ok ys st) = kIsc5 cf d s1 s2 e xs ys (.ofO (strO e[i]?) st) := (rfl)
@[simp] theorem k_isc5 {d : PX} {s1 s2 : PS} {xs ys : List (List Nat)} {z : List Nat} : kIsc5 cf d s1 s2 e xs ys (.ok z st) = kIsc6 cf s1 s2 e xs ys z (ev cf d e st) := (rfl)
@[simp] theorem k_isc6 {s1 s2 : PS} {xs ys : List (List Nat)} {z : List Nat} {u : PV} : kIsc6 cf s1 s2 e xs ys z (.ok u st) = kIsc7 cf s1 s2 e xs ys z (.ofO (strT (15 - ys.length) u) st) := (rfl)
@[simp] theorem k_isc7 {s1 s2 : PS} {xs ys us : List (List Nat)} {z : List Nat} : kIsc7 cf s1 s2 e xs ys z (.ok us st) = if scB xs ys z us = true then run cf s1 e st else run cf s2 e st := (rfl)
@[simp] theorem u1_sti {v : PV} : u1V .sti v = stiV v := (rfl)
@[simp] theorem k_dav {k : PX} {o : PV} : kDav cf k e (.ok o st) = kDav2 o (ev cf k e st) := (rfl)
@[simp] theorem k_dav2 {o kv : PV} : kDav2 o (.ok kv st) = kDav3 o (.ofO (tupK kv) st) := (rfl)
@[simp] theorem k_dav3 {o : PV} {ky : List KP} : kDav3 o (.ok ky st) = .ofO ((dctW st o).bind fun kvs => dlook kvs ky) st := (rfl)
@[simp] theorem k_dnv {n : Bool} {a : PX} {kv : PV} : kDnv cf n a e (.ok kv st) = kDnv2 cf n a e (.ofO (tupK kv) st) := (rfl)
@[simp] theorem k_dnv2 {n : Bool} {a : PX} {ky : List KP} : kDnv2 cf n a e (.ok ky st) = kDnv3 n ky (ev cf a e st) := (rfl)
@[simp] theorem k_dnv3 {n : Bool} {ky : List KP} {o : PV} : kDnv3 n ky (.ok o st) = .ofO ((dctW st o).map fun kvs => ((dlook kvs ky).isSome != n)) st := (rfl)
@[simp] theorem k_dk {x : PV} : kDk (.ok x st) = .ofO ((fdcAt st x).bind dkL) st := (rfl)
@[simp] theorem k_dsv {a k : PX} {y : PV} : kDsv cf a k e (.ok y st) = kDsv2 cf k e y (ev cf a e st) := (rfl)
@[simp] theorem k_dsv2 {k : PX} {y o : PV} : kDsv2 cf k e y (.ok o st) = kDsv3 e y o (ev cf k e st) := (rfl)
@[simp] theorem k_dsv3 {y o kv : PV} : kDsv3 e y o (.ok kv st) = kDsv4 e y o (.ofO (tupK kv) st) := (rfl)
@[simp] theorem k_dsv4 {y o : PV} {ky : List KP} : kDsv4 e y o (.ok ky st) = kDst5 e (dsetV true y ky st o) := (rfl)
end
end PL

namespace SM
open PL
section
variable {T : Tab}
theorem words_ok2 (h : WwT T) (hw : T.lookup 142 = some Fn.f_words) {s : Sm} (hs : Gd s) (hd : dp s ≤ 1000) (hz : (wys s).length ≤ 16777216) (hlen : (wds s).length + 1 < 4096) (n : Nat) (hn : 2 * dp s + 5 ≤ n) (st : Sto) : callF T n 142 [enc s] st = .ok (.tup ((srtW (wds s)).map .str)) st := by
  obtain ⟨n, rfl⟩ : ∃ j, n = j + 4 := ⟨n - 4, by omega⟩
  rw [callF_of hw, runD_of rfl]
  have wy := ways_ok h s hs.sh hd hz (n + 3) (by omega) st
  simp [Fn.f_words, start, wy, SZ_val, hz]
  rw [comp_filter encW (fun w => .str ((wAt s w).headD [])) (fun w => !(wAt s w).isEmpty) (wys s) (fun w hw => by
    obtain ⟨p, hp, gp, _⟩ := wys_part hw hs
    have hpart := part_at_ok h n hs.sh hp st
    have hk := kindS h.toKpT (n + 2) p st
    cases p with
    | nd k ps =>
      obtain ⟨vs, e⟩ := enc_cons (.nd k ps)
      simp only [Sm.kd] at hk e
      cases k with
      | word t =>
        have : ps = [] := List.eq_nil_of_length_eq_zero gp.sh.kd
        subst this
        have ee : enc (.nd (.word t) []) = .tup [.str [119, 111, 114, 100], .str t] := by rw [enc_nd]; rfl
        rw [ee] at hpart hk
        simp [hpart, hk, Kd.name, wAt, hp]
      | _ => simp [hpart, hk, Kd.name, wAt, hp])]
  rw [filt_wAt, wys_wds s hs.sh]
  have e := ssV_lst (wds s) hlen
  simp [SZ_val, show (wds s).length ≤ 16777216 by omega, u1V, e]
end
end SM

namespace SM
open PL
theorem wds_ne {s : Sm} (h : Gd s) : wds s ≠ [] := by
  induction s using Sm.ind with
  | h k ps ih =>
    cases hk : k.isWd with
    | true =>
      cases k <;> simp [Kd.isWd] at hk
      rw [wds_word]; simp
    | false =>
      rw [wds_nd hk]
      have hp : ps ≠ [] := by
        rintro rfl
        have g := h.kd
        cases k with
        | word u => simp [Kd.isWd] at hk
        | chain ss => have := g.1; simp at this
        | over => simp [Kd.gd] at g
        | root => simp [Kd.gd] at g
        | held => simp [Kd.gd] at g
        | script u d => have := g.2.1; simp at this; omega
        | table r c =>
          have h1 := g.2.2
          have h2 : 1 * 1 ≤ r * c := Nat.mul_le_mul g.1.1 g.2.1.1
          simp at h1
          omega
      cases ps with
      | nil => exact absurd rfl hp
      | cons p ps =>
        have := ih p (by simp) (h.mem p (by simp))
        simp [this]
theorem pin_dp6 {t : List Nat} {new : Sm} {s : Sm} (h : Gd s) : dp (pin t new s) ≤ dp s + dp new := by
  induction s using Sm.ind with
  | h k ps ih =>
    cases hk : k.isWd with
    | true =>
      cases k <;> simp [Kd.isWd] at hk
      rw [pin_word]
      split
      · omega
      · rw [dp_nd, dp_nd]; simp [maxN]; omega
    | false =>
      rw [pin_nd hk, dp_nd, dp_nd]
      have : maxN ((mapI (fun i p => fit k i (pin t new p)) 0 ps).map dp) ≤ maxN (ps.map dp) + dp new := maxN_le fun n hn => by
        obtain ⟨q, hq, rfl⟩ := List.mem_map.mp hn
        obtain ⟨i, a, ha, rfl⟩ := mapI_mem hq
        have hm := List.mem_of_getElem? ha
        have h2 := le_maxN (List.mem_map_of_mem (f := dp) hm)
        by_cases hw : a = .nd (.word t) []
        · have h3 := fit_dp k (0 + i) (pin t new a)
          rw [hw, pin_word, if_pos rfl] at h3
          have h4 := dp_pos a
          rw [hw, pin_word, if_pos rfl]
          omega
        · rw [Nat.zero_add, fit_pin h ha hw]
          have h1 := ih a hm (h.mem a hm)
          omega
      omega
theorem wds_uni {s : Sm} (h : Gd s) : ∀ t ∈ wds s, ∀ c ∈ t, c < 1114112 := fun t ht c hc => lt_uni ((wds_lt h t ht).2.2 c hc)
theorem drawn_q {T : Tab} (hd : DrawT T) (l : Nat) (hl : 1 ≤ l) (cell : Int) : ∃ s, Gd s ∧ Wq l s ∧ dp s ≤ l ∧ ∀ n st, 3 * l + 2 ≤ n → callF T n 12 [.int cell, .int (l : Int)] st = .ok (enc s) st := by
  obtain ⟨k, rfl⟩ : ∃ k, l = k + 1 := ⟨l - 1, by omega⟩
  obtain ⟨f, hf⟩ := (draws_q hd k).2.2
  obtain ⟨⟨g, q⟩, d, e⟩ := hf cell
  exact ⟨_, g, q, d, e⟩
section
variable {T : Tab}
end
end SM

namespace SM
open PL
theorem cnt_filt (s : Sm) (t : List Nat) : ∀ l : List (List Nat), (l.filter fun w => decide (wAt s w = [t])).length = (l.flatMap (wAt s)).count t
  | [] => rfl
  | w :: l => by
    have ih := cnt_filt s t l
    have : wAt s w = [] ∨ ∃ u, wAt s w = [u] := by
      unfold wAt
      split
      · exact .inr ⟨_, rfl⟩
      · exact .inl rfl
    rw [List.flatMap_cons, List.count_append, ← ih]
    rcases this with e | ⟨u, e⟩
    · simp [List.filter_cons, e]
    · by_cases hu : u = t
      · subst hu; simp [List.filter_cons, e]; omega
      · simp [List.filter_cons, e, hu]
theorem many_eq {s : Sm} (hs : Sh s) (t : List Nat) : ((wys s).filter fun w => decide (wAt s w = [t])).length = (wds s).count t := by rw [cnt_filt, wys_wds s hs]
theorem mapI_sum {g : Nat → Sm → Nat} {lo hi : Sm → Nat} : ∀ (j : Nat) (l : List Sm), (∀ i p, l[i]? = some p → lo p ≤ g (j + i) p ∧ g (j + i) p ≤ hi p) → (l.map lo).sum ≤ (mapI g j l).sum ∧ (mapI g j l).sum ≤ (l.map hi).sum
  | _, [], _ => by simp [mapI]
  | j, a :: r, h => by
    have h0 := h 0 a rfl
    have ih := mapI_sum (j + 1) r fun i p hp => by
      have := h (i + 1) p (by simpa using hp)
      rwa [show j + (i + 1) = j + 1 + i by omega] at this
    simp only [mapI, List.map_cons, List.sum_cons, Nat.add_zero] at *
    omega
theorem sum_lin (a b : Sm → Nat) (c : Nat) : ∀ l : List Sm, (l.map fun p => a p + b p * c).sum = (l.map a).sum + (l.map b).sum * c
  | [] => by simp
  | p :: l => by
    simp only [List.map_cons, List.sum_cons, sum_lin a b c l, Nat.add_mul]
    omega
theorem wyl_pos (s : Sm) : 1 ≤ (wys s).length := by
  cases s; rw [wyl_nd]; omega
/-- how much more there is -/
theorem pin_szs {t : List Nat} {new s : Sm} (h : Gd s) : (wys s).length + (wds s).count t * ((wys new).length - 1) ≤ (wys (pin t new s)).length ∧ (wys (pin t new s)).length ≤ (wys s).length + (wds s).count t * (wys new).length := by
  have hf := wyl_pos new
  induction s using Sm.ind with
  | h k ps ih =>
    cases hk : k.isWd with
    | true =>
      cases k <;> simp [Kd.isWd] at hk
      rename_i u
      have : ps = [] := h.kd.1
      subst this
      rw [pin_word, wds_word]
      have h1 : (wys (.nd (.word u) [])).length = 1 := by rw [wyl_nd]; rfl
      rw [h1]
      by_cases hu : u = t
      · subst hu
        rw [if_pos rfl]
        simp
        omega
      · rw [if_neg hu, h1]
        simp [hu]
    | false =>
      rw [pin_nd hk, wyl_nd, wyl_nd, map_mapI, wds_nd hk, List.count_flatten, List.map_map]
      have key := mapI_sum (g := fun i p => (wys (fit k i (pin t new p))).length) (lo := fun p => (wys p).length + (wds p).count t * ((wys new).length - 1)) (hi := fun p => (wys p).length + (wds p).count t * (wys new).length) 0 ps fun i p hp => by
        have hm := List.mem_of_getElem? hp
        rw [Nat.zero_add]
        by_cases hw : p = .nd (.word t) []
        · have e : (wys (fit k i (pin t new p))).length = (wys new).length ∨ (wys (fit k i (pin t new p))).length = (wys new).length + 1 := by
            rw [hw, pin_word, if_pos rfl]
            unfold fit
            split
            · exact .inl rfl
            · right; rw [wyl_nd]; simp; omega
          have h1 : (wys (.nd (.word t) [])).length = 1 := by rw [wyl_nd]; rfl
          have h2 : (wds (.nd (.word t) [])).count t = 1 := by rw [wds_word]; simp
          rw [hw] at e ⊢
          rw [h1, h2]
          omega
        · rw [fit_pin h hp hw]
          exact ih p hm (h.mem p hm)
      rw [sum_lin, sum_lin] at key
      simp only [Function.comp_def]
      omega
theorem fit_fit {k : Kd} {i : Nat} {u : List Nat} {b r : Sm} (g : Gd r) (h : u ∉ wds r) : fit k i (pin u b (fit k i r)) = fit k i r := by
  rw [pin_id (fit_gd g) fun z => absurd (by rwa [wds_fit] at z) h]
  exact fit_same (fit_may _ _ _)
/-- either way about -/
theorem pin_comm {t u : List Nat} {a b s : Sm} (hne : t ≠ u) (h : Gd s) (ga : Gd a) (gb : Gd b) (ha : u ∉ wds a) (hb : t ∉ wds b) : pin u b (pin t a s) = pin t a (pin u b s) := by
  induction s using Sm.ind with
  | h k ps ih =>
    cases hk : k.isWd with
    | true =>
      cases k <;> simp [Kd.isWd] at hk
      rename_i v
      have : ps = [] := h.kd.1
      subst this
      rw [pin_word, pin_word]
      by_cases h1 : v = t
      · subst h1
        rw [if_pos rfl, if_neg hne, pin_word, if_pos rfl, pin_id ga fun z => absurd z ha]
      · rw [if_neg h1, pin_word]
        by_cases h2 : v = u
        · rw [if_pos h2, pin_id gb fun z => absurd z hb]
        · rw [if_neg h2, pin_word, if_neg h1]
    | false =>
      rw [pin_nd hk, pin_nd hk, pin_nd hk, pin_nd hk, mapI_mapI, mapI_mapI]
      congr 1
      refine mapI_congr fun i p hp => ?_
      have hm := List.mem_of_getElem? hp
      have hsm : fit k i p = p := fit_same (may_gd h hp)
      rw [Nat.zero_add]
      by_cases h1 : p = .nd (.word t) []
      · subst h1
        rw [pin_word, if_pos rfl, fit_fit ga ha, pin_word, if_neg hne, hsm, pin_word, if_pos rfl]
      · by_cases h2 : p = .nd (.word u) []
        · subst h2
          have hn : ¬ u = t := fun z => hne z.symm
          rw [pin_word, if_neg hn, hsm, pin_word, if_pos rfl, fit_fit gb hb]
        · rw [fit_pin h hp h1, fit_pin h hp h2, ih p hm (h.mem p hm)]
theorem pin_dpw {t z : List Nat} {s : Sm} (h : Gd s) : dp (pin t (.nd (.word z) []) s) = dp s := by
  induction s using Sm.ind with
  | h k ps ih =>
    cases hk : k.isWd with
    | true =>
      cases k <;> simp [Kd.isWd] at hk
      have : ps = [] := h.kd.1
      subst this
      rw [pin_word]
      split <;> simp [dp_nd]
    | false =>
      rw [pin_nd hk, dp_nd, dp_nd, map_mapI]
      congr 2
      have : mapI (fun i p => dp (fit k i (pin t (.nd (.word z) []) p))) 0 ps = mapI (fun _ p => dp p) 0 ps := mapI_congr fun i p hp => by
        have hm := List.mem_of_getElem? hp
        rw [Nat.zero_add, fit_pinw h hp, ih p hm (h.mem p hm)]
      rw [this, mapI_const]
noncomputable def newW (i : Nat) : List Nat := [110, 101, 119, 48 + i]
noncomputable def frs : Nat → List (List Nat) → Sm → Sm
  | _, [], s => s
  | j, t :: r, s => frs (j + 1) r (pin t (.nd (.word (newW j)) []) s)
theorem gd_new {i : Nat} (h : i < 10) : Gd (.nd (.word (newW i)) []) := by
  have : i = 0 ∨ i = 1 ∨ i = 2 ∨ i = 3 ∨ i = 4 ∨ i = 5 ∨ i = 6 ∨ i = 7 ∨ i = 8 ∨ i = 9 := by omega
  rcases this with e | e | e | e | e | e | e | e | e | e <;> subst e <;> exact .nd ⟨rfl, by simp [newW], by simp [newW], by simp [newW, isLt]⟩ (by simp)
theorem frs_ok : ∀ (l : List (List Nat)) (j : Nat) {s : Sm}, Gd s → j + l.length ≤ 10 → Gd (frs j l s) ∧ dp (frs j l s) = dp s ∧ (wys (frs j l s)).length = (wys s).length ∧ (wds (frs j l s)).length = (wds s).length ∧ ∀ u ∈ wds (frs j l s), (∃ i, u = newW i) ∨ (u ∈ wds s ∧ u ∉ l)
  | [], j, s, h, _ => ⟨h, rfl, rfl, rfl, fun u hu => .inr ⟨hu, by simp⟩⟩
  | t :: r, j, s, h, hj => by
    simp only [List.length_cons] at hj
    obtain ⟨h1, h2, h3, h4, h5⟩ := frs_ok r (j + 1) (pin_gd t h (gd_new (i := j) (by omega))) (by omega)
    refine ⟨h1, by rw [frs, h2, pin_dpw h], by rw [frs, h3, pin_size h], by rw [frs, h4, wds_pinw, List.length_map], fun u hu => ?_⟩
    rcases h5 u hu with z | ⟨z1, z2⟩
    · exact .inl z
    · rw [wds_pinw] at z1
      obtain ⟨v, hv, e⟩ := List.mem_map.mp z1
      split at e
      · exact .inl ⟨j, e.symm⟩
      · rename_i hn
        subst e
        exact .inr ⟨hv, by simp [hn, z2]⟩
/-- the words are those of the sum but these, and those of what was put in -/
theorem scB_pin {s a : Sm} {t : List Nat} (ht : t ∈ wds s) : scB (srtW (wds (pin t a s))) (srtW (wds s)) t (srtW (wds a)) = false := by
  have hm : ∀ u, u ∈ wds (pin t a s) ↔ (u ∈ wds s ∧ u ≠ t) ∨ u ∈ wds a := fun u => by
    rw [wds_pin, List.mem_flatMap]
    constructor
    · rintro ⟨v, hv, hu⟩
      unfold subW at hu
      split at hu
      · exact .inr hu
      · rename_i hn
        rw [List.mem_singleton] at hu
        subst hu
        exact .inl ⟨hv, hn⟩
    · rintro (⟨h1, h2⟩ | h1)
      · exact ⟨u, h1, by unfold subW; rw [if_neg h2]; simp⟩
      · exact ⟨t, ht, by unfold subW; rw [if_pos rfl]; exact h1⟩
  have hr : ∀ u, u ∈ ((srtW (wds s)).filter fun y => decide (y ≠ t)) ++ srtW (wds a) ↔ u ∈ wds (pin t a s) := fun u => by
    rw [hm, List.mem_append, List.mem_filter, srtW_mem, srtW_mem, decide_eq_true_eq]
  unfold scB
  rw [Bool.not_eq_false', Bool.and_eq_true, List.all_eq_true, List.all_eq_true]
  exact ⟨fun x hx => decide_eq_true ((hr x).mpr ((srtW_mem x _).mp hx)), fun x hx => decide_eq_true ((srtW_mem x _).mpr ((hr x).mp hx))⟩
/-- at most as many words as there are -/
theorem srtW_atoms {l : List (List Nat)} (h : ∀ t ∈ l, t ∈ atoms) : (srtW l).length ≤ 6 := by
  unfold srtW
  rw [List.length_mergeSort]
  have hn : (ddL l).Nodup := ddL_nodup l
  exact PL.nodup_le hn fun x hx => h x ((ddL_mem x l).mp hx)
theorem srtW_two {l x y : List (List Nat)} {n : Nat} (h : ∀ v ∈ l, v ∈ x ∨ v ∈ y) (hn : x.length + y.length ≤ n) : (srtW l).length ≤ n := by
  unfold srtW
  rw [List.length_mergeSort]
  have hd : (ddL l).Nodup := ddL_nodup l
  have := PL.nodup_le hd (m := x ++ y) fun v hv => List.mem_append.mpr (h v ((ddL_mem v l).mp hv))
  rw [List.length_append] at this
  omega
theorem strT_of {n : Nat} {l : List (List Nat)} (h : l.length ≤ n) : strT n (.tup (l.map .str)) = some l := by
  simp only [strT, List.length_map, if_pos h, strsV_mapW]
end SM

namespace SM
open PL
section
variable {T : Tab}
theorem many32_ok (h : WwT T) (hw : T.lookup 195 = some Fn.f_law_many) {s : Sm} {t : List Nat} (ht : ∀ c ∈ t, c < 1114112) (hs : Gd s) (hd : dp s ≤ 6) (hz : (wys s).length ≤ 16777216) (n : Nat) (hn : 2 * dp s + 5 ≤ n) (st : Sto) : callF T n 195 [enc s, .str t] st = .ok (.int ((wds s).count t : Int)) st := by
  obtain ⟨n, rfl⟩ : ∃ j, n = j + 4 := ⟨n - 4, by omega⟩
  rw [callF_of hw, runD_of rfl]
  have wy := ways_ok h s hs.sh (by omega) hz (n + 3) (by omega) st
  simp [Fn.f_law_many, start, wy, SZ_val, hz]
  rw [comp_filter encW (fun _ => .int 1) (fun w => decide (wAt s w = [t])) (wys s) (fun w hw => by
    obtain ⟨p, hp, gp, hpd⟩ := wys_part hw hs
    have hpart := part_at_ok h n hs.sh hp st
    have hfw : (PV.tup [.str [119, 111, 114, 100], .str t]).fine = true := by
      simp only [PV.fine, PV.fines, List.all_eq_true, decide_eq_true_eq, Bool.and_true, Bool.and_eq_true]
      exact ⟨by simp, ht⟩
    have ed := enc_data gp
    obtain ⟨b, heq, hb⟩ := eqV_iff ed.1 hfw (by omega) (by simp [PV.deep, PV.deeps])
    have hiff := enc_word_eq gp.sh t
    have hwa : wAt s w = [t] ↔ p = .nd (.word t) [] := by
      unfold wAt
      rw [hp]
      cases p with
      | nd k ps =>
        cases k with
        | word u =>
          have : ps = [] := List.eq_nil_of_length_eq_zero gp.sh.kd
          subst this
          simp
        | _ => simp
    have hbe : decide (wAt s w = [t]) = b := by
      cases b with
      | true => exact decide_eq_true (hwa.mpr (hiff.mp (hb.mp rfl)))
      | false => exact decide_eq_false fun z => by have := hb.mpr (hiff.mpr (hwa.mp z)); cases this
    rw [hbe]
    cases b <;> simp [hpart, heq, SZ_val])]
  have hl := List.length_filter_le (fun w => decide (wAt s w = [t])) (wys s)
  have := many_eq hs.sh t
  simp [SZ_val, show ((wys s).filter fun w => decide (wAt s w = [t])).length ≤ 16777216 by omega, this]
noncomputable def frB : PS := match Fn.f_law_fresh.body with | .seq _ (.seq (.fr _ _ b) _) => b | _ => .skip
theorem fresh_loop (h : PiT T) (n : Nat) (hn : 40 ≤ n) (c : Int) (st : Sto) : ∀ (l : List (List Nat)) (j : Nat) (s : Sm) (o1 o2 : Option PV), Gd s → dp s ≤ 2 → j + l.length ≤ 10 → (∀ t ∈ l, ∀ c ∈ t, c < 1114112) →
    ∃ o1' o2', forL (forF (callF T n) (.tp (.cons (.nm 2) (.cons (.nm 3) .nil))) frB) (enumL j (l.map .str)) [some (.int c), some (enc s), o1, o2] st = .next [some (.int c), some (enc (frs j l s)), o1', o2'] st
  | [], j, s, o1, o2, _, _, _, _ => ⟨o1, o2, rfl⟩
  | t :: r, j, s, o1, o2, g, d, hj, hu => by
    simp only [List.length_cons] at hj
    have gn := gd_new (i := j) (by omega)
    have p := put_in_ok h (hu t (by simp)) (.nd (.word (newW j)) []) 2 s g d (by omega) n st (by omega)
    obtain ⟨o1', o2', q⟩ := fresh_loop h n hn c st r (j + 1) (pin t (.nd (.word (newW j)) []) s) (some (.int (j : Int))) (some (.str t)) (pin_gd t g gn) (by rw [pin_dpw g]; exact d) (by omega) fun t ht => hu t (by simp [ht])
    refine ⟨o1', o2', ?_⟩
    rw [frs, ← q]
    have ew : enc (.nd (.word (newW j)) []) = .tup [.str [119, 111, 114, 100], .str [110, 101, 119, 48 + j]] := by rw [enc_nd]; rfl
    rw [ew] at p
    have hs : stiV (.int (j : Int)) = some (.str [48 + j]) := by
      simp only [stiV]
      rw [if_pos (by omega)]
      simp
    simp [enumL, forL, forF, kFor2, frB, Fn.f_law_fresh, hs, p, SZ_val]
theorem fresh_ok (hd : DrawT T) (h : PiT T) (hf : T.lookup 194 = some Fn.f_law_fresh) (cell : Int) : ∃ s, Gd s ∧ dp s ≤ 2 ∧ (wys s).length ≤ 10 ∧ (wds s).length ≤ 9 ∧ (∀ u ∈ wds s, ∃ i, u = newW i) ∧ ∀ n st, 45 ≤ n → callF T n 194 [.int cell] st = .ok (enc s) st := by
  obtain ⟨s, g, wq, d, e⟩ := drawn_q hd 2 (by decide) cell
  have h9 := wys9 g
  have h9' : 9 ^ dp s ≤ 9 ^ 2 := Nat.pow_le_pow_right (by omega) d
  have hl : (wds s).length ≤ 9 := by have := wq.2; simpa [cD] using this
  have h6 := srtW_atoms wq.1
  obtain ⟨f1, f2, f3, f4, f5⟩ := frs_ok (srtW (wds s)) 0 g (by omega)
  refine ⟨frs 0 (srtW (wds s)) s, f1, by omega, by omega, by omega, fun u hu => ?_, fun n st hn => ?_⟩
  · rcases f5 u hu with z | ⟨z1, z2⟩
    · exact z
    · exact absurd ((srtW_mem u _).mpr z1) z2
  · obtain ⟨n, rfl⟩ : ∃ j, n = j + 4 := ⟨n - 4, by omega⟩
    rw [callF_of hf, runD_of rfl]
    have e' : callF T (n + 3) 12 [.int cell, .int 2] st = .ok (enc s) st := e (n + 3) st (by omega)
    have wo := words_ok h.toWwT h.words g (by omega) (by omega) (n + 3) (by omega) st
    obtain ⟨o1, o2, q⟩ := fresh_loop h (n + 3) (by omega) cell st (srtW (wds s)) 0 s none none g d (by omega) fun t ht => wds_uni g t ((srtW_mem t _).mp ht)
    have hi : itV (.tup ((srtW (wds s)).map .str)) = some ((srtW (wds s)).map .str) := rfl
    simp [frB, Fn.f_law_fresh] at q
    simp [Fn.f_law_fresh, start, e', wo, hi]
    rw [q]
    simp
noncomputable def b32 : PS := match Fn.f_law_k32.body with | .seq (.fr _ _ b) _ => b | _ => .skip
theorem law32 (hd : DrawT T) (hw : WpT T) (h23 : T.lookup 23 = some Fn.f_size) (h137 : T.lookup 137 = some Fn.f_fitted) (h138 : T.lookup 138 = some Fn.f_put_in) (h142 : T.lookup 142 = some Fn.f_words)
    (h194 : T.lookup 194 = some Fn.f_law_fresh) (h195 : T.lookup 195 = some Fn.f_law_many) (hh : T.lookup 196 = some Fn.f_law_k32) : LawTrue T 61 196 := by
  intro ns hns
  refine ⟨[], ?_⟩
  rw [callF_of hh, runD_of rfl]
  have s10 : small62 10 = true := by decide
  have s89 : small64 89 = true := by decide
  have hpi : PiT T := ⟨hw, h137, h138, h142⟩
  have hW := hw.toWwT
  obtain ⟨e', q, o1, o2, o3, o4, o5, o6, o7, o8, o9, o10, o11, o12, rfl⟩ := range_inv (f := forF (callF T 60) (.nm 1) b32) (st := []) (fun e => ∃ o1 o2 o3 o4 o5 o6 o7 o8 o9 o10 o11 o12, e = [some (.scr ns), o1, o2, o3, o4, o5, o6, o7, o8, o9, o10, o11, o12]) 10 [some (.scr ns), none, none, none, none, none, none, none, none, none, none, none, none] ⟨_, _, _, _, _, _, _, _, _, _, _, _, rfl⟩ (by
    rintro k hk e ⟨o1, o2, o3, o4, o5, o6, o7, o8, o9, o10, o11, o12, rfl⟩
    have k9 : (0 : Int) ≤ (k : Int) % 9 := Int.emod_nonneg _ (by decide)
    generalize hcell : cellI ns ((k : Int) % 9).toNat + 89 * (k : Int) = cell
    have ce := cell_int hd 59 ns _ k9
    obtain ⟨s, g, wq, d1, e1⟩ := drawn_q hd 4 (by decide) cell
    have e1' : callF T 60 12 [.int cell, .int 4] [] = .ok (enc s) [] := e1 60 [] (by omega)
    have h9 := wys9 g
    have h9' : 9 ^ dp s ≤ 9 ^ 4 := Nat.pow_le_pow_right (by omega) d1
    have hz : (wys s).length ≤ 820 := by omega
    have hwl : (wds s).length ≤ 324 := by have := wq.2; simpa [cD] using this
    have wo := words_ok hW h142 g (by omega) (by omega) 60 (by omega) []
    -- the names
    have hne : srtW (wds s) ≠ [] := fun z => by
      cases e : wds s with
      | nil => exact wds_ne g e
      | cons a r =>
        have : a ∈ srtW (wds s) := (srtW_mem a _).mpr (by rw [e]; simp)
        rw [z] at this; cases this
    have hpos : 0 < ((srtW (wds s)).length : Int) := by
      have := List.length_pos_iff.mpr hne
      omega
    have pick : ∀ p : Int, 0 < p → p < 2 ^ 30 → ∃ (j : Nat) (t : List Nat), callF T 60 8 [.int cell, .int p, .int ((srtW (wds s)).length : Int)] [] = .ok (.int (j : Int)) [] ∧ L2.atI ((srtW (wds s)).map PV.str) (j : Int) = some (.str t) ∧ t ∈ wds s := fun p hp0 hp1 => by
      have m0 := mixI_nonneg (c := cell) (p := p) hpos
      have m1 := mixI_lt (c := cell) (p := p) hpos
      have mx := mix_ok hd 59 cell p ((srtW (wds s)).length : Int) hp0 hp1 hpos []
      obtain ⟨j, hj⟩ : ∃ j : Nat, mixI cell p ((srtW (wds s)).length : Int) = (j : Int) := ⟨_, (Int.toNat_of_nonneg m0).symm⟩
      rw [hj] at mx m1
      have hjl : j < (srtW (wds s)).length := by omega
      obtain ⟨t, hjt⟩ : ∃ t, (srtW (wds s))[j]? = some t := ⟨_, List.getElem?_eq_getElem hjl⟩
      exact ⟨j, t, mx, atI_nat (by rw [List.getElem?_map, hjt]; rfl), (srtW_mem t _).mp (List.mem_of_getElem? hjt)⟩
    obtain ⟨j1, t, mx1, at1, ht⟩ := pick 9157 (by decide) (by decide)
    obtain ⟨j2, u, mx2, at2, hu⟩ := pick 9151 (by decide) (by decide)
    clear pick
    have hta := wq.1 t ht
    have hua := wq.1 u hu
    have htu := wds_uni g t ht
    have huu := wds_uni g u hu
    have hnn : ([110, 111, 119, 104, 101, 114, 101] : List Nat) ∉ wds s := fun z => by have := wq.1 _ z; simp [atoms] at this
    have ew : ∀ t, enc (.nd (.word t) []) = .tup [.str [119, 111, 114, 100], .str t] := fun t => by rw [enc_nd]; rfl
    -- the new ones
    obtain ⟨a, ga, da, za, wa, na, ea⟩ := fresh_ok hd hpi h194 (cell * 2 + 5)
    obtain ⟨b, gb, db, zb, wb, nb, eb⟩ := fresh_ok hd hpi h194 (cell * 2 + 8)
    have ea' := ea 60 [] (by omega)
    have eb' := eb 60 [] (by omega)
    have fresh : ∀ {v : List Nat} {x : Sm}, v ∈ atoms → (∀ u ∈ wds x, ∃ i, u = newW i) → v ∉ wds x := fun {v x} hv hx hm => by
      obtain ⟨i, e⟩ := hx v hm
      subst e
      simp [atoms, newW] at hv
    have hta2 := fresh hta na
    have hua2 := fresh hua na
    have htb2 := fresh hta nb
    -- put in
    have p1 := put_in_ok hpi (t := [110, 111, 119, 104, 101, 114, 101]) (by simp) a 4 s g d1 (by omega) 60 [] (by omega)
    rw [pin_id g (fun z => absurd z hnn)] at p1
    have p2 := put_in_ok hpi htu (.nd (.word t) []) 4 s g d1 (by omega) 60 [] (by omega)
    rw [pin_id g (fun _ => rfl), ew] at p2
    have p3 := put_in_ok hpi htu a 4 s g d1 (by omega) 60 [] (by omega)
    have gn := pin_gd t g ga
    have dn := pin_dp6 (t := t) (new := a) g
    have zn := pin_szs (t := t) (new := a) g
    have wn := pin_wl (t := t) hwl wa (by omega)
    have hsc := scB_pin (a := a) ht
    have hsub : ∀ v ∈ wds (pin t a s), v ∈ srtW (wds s) ∨ v ∈ srtW (wds a) := fun v hv => by
      rw [wds_pin, List.mem_flatMap] at hv
      obtain ⟨x, hx, hv⟩ := hv
      unfold subW at hv
      split at hv
      · exact .inr ((srtW_mem v _).mpr hv)
      · rw [List.mem_singleton] at hv; subst hv; exact .inl ((srtW_mem _ _).mpr hx)
    have hnw : t ∉ wds (pin t a s) := fun z => by
      rw [wds_pin, List.mem_flatMap] at z
      obtain ⟨v, _, hv⟩ := z
      unfold subW at hv
      split at hv
      · exact hta2 hv
      · rename_i hne; rw [List.mem_singleton] at hv; exact hne hv.symm
    have p4 := put_in_ok hpi htu b 6 (pin t a s) gn (by omega) (by omega) 60 [] (by omega)
    rw [pin_id gn (fun z => absurd z hnw)] at p4
    have p5 := put_in_ok hpi huu b 4 s g d1 (by omega) 60 [] (by omega)
    have go := pin_gd u g gb
    have d_o := pin_dp6 (t := u) (new := b) g
    have p6 := put_in_ok hpi htu a 6 (pin u b s) go (by omega) (by omega) 60 [] (by omega)
    have p7 := put_in_ok hpi huu b 6 (pin t a s) gn (by omega) (by omega) 60 [] (by omega)
    have hcomm : t ≠ u → pin u b (pin t a s) = pin t a (pin u b s) := fun hne => pin_comm hne g ga gb hua2 htb2
    have gboth := pin_gd t go ga
    have dboth := pin_dp6 (t := t) (new := a) go
    have es := enc_self g (by omega)
    have en := enc_self gn (by omega)
    have eboth := enc_self gboth (by omega)
    have won := words_ok2 hW h142 gn (by omega) (by
      have hc : (wds s).count t ≤ 324 := Nat.le_trans List.count_le_length hwl
      have := Nat.mul_le_mul hc za
      omega) (by omega) 60 (by omega) []
    have woa := words_ok hW h142 ga (by omega) (by omega) 60 (by omega) []
    have my := many32_ok hW h195 htu g (by omega) (by omega) 60 (by omega) []
    have sn := size_ok hW.toKpT h23 (pin t a s) gn.sh 60 (by omega) []
    have ss := size_ok hW.toKpT h23 s g.sh 60 (by omega) []
    have sa := size_ok hW.toKpT h23 a ga.sh 60 (by omega) []
    have l1 := srtW_len (wds (pin t a s))
    have l2 := srtW_atoms wq.1
    have l3 := srtW_len (wds a)
    have l4 : (srtW (wds (pin t a s))).length ≤ 15 := srtW_two (fun v hv => hsub v hv) (by omega)
    have k1 : strT 1000 (.tup ((srtW (wds (pin t a s))).map .str)) = some (srtW (wds (pin t a s))) := strT_of (by omega)
    have k2 : strT 7 (.tup ((srtW (wds s)).map .str)) = some (srtW (wds s)) := strT_of (by omega)
    have k3 : strT (15 - (srtW (wds s)).length) (.tup ((srtW (wds a)).map .str)) = some (srtW (wds a)) := strT_of (by omega)
    have s2 : small64 2 = true := by decide
    have sc : small64 ((wds s).count t : Int) = true := by
      have hc : (wds s).count t ≤ 324 := Nat.le_trans List.count_le_length hwl
      simp only [small64, Bool.and_eq_true, decide_eq_true_eq]
      omega
    have hpa := wyl_pos a
    obtain ⟨zn1, zn2⟩ := zn
    generalize hC : (wds s).count t = C at *
    have i1 : ((wys s).length : Int) + (C : Int) * ((wys a).length - 1) ≤ ((wys (pin t a s)).length : Int) := by
      have : ((C * ((wys a).length - 1) : Nat) : Int) = (C : Int) * (((wys a).length : Int) - 1) := by
        rw [Int.natCast_mul, Int.natCast_sub hpa]; rfl
      omega
    have i2 : ((wys (pin t a s)).length : Int) ≤ ((wys s).length : Int) + (C : Int) * ((wys a).length - 1) + (C : Int) := by
      have h1 : ((C * (wys a).length : Nat) : Int) = (C : Int) * ((wys a).length : Int) := Int.natCast_mul _ _
      have h2 : (C : Int) * (((wys a).length : Int) - 1) = (C : Int) * ((wys a).length : Int) - (C : Int) := by rw [Int.mul_sub, Int.mul_one]
      omega
    obtain ⟨M, hM⟩ : ∃ M, (C : Int) * (((wys a).length : Int) - 1) = M := ⟨_, rfl⟩
    rw [hM] at i1 i2
    by_cases htue : t = u
    · subst htue
      refine ⟨[some (.scr ns), some (.int (k : Int)), some (.int cell), some (enc s), some (.tup ((srtW (wds s)).map .str)), some (enc (pin t a s)), some (.int (C : Int)), some (.int (((wys s).length : Int) + M)), some (.str t), some (.str t), some (enc a), some (enc b), o12], ?_, ⟨_, _, _, _, _, _, _, _, _, _, _, _, rfl⟩⟩
      simp [b32, Fn.f_law_k32, forF, kFor2, ce, s89, s2, hcell, e1', wo, mx1, mx2, at1, at2, SZ_val, p1, p2, p3, p4, es, en, ea', eb', won, woa, my, sn, ss, sa, k1, k2, k3, hsc, sc, hM, i1, i2, strO]
      done
    · have hcm := hcomm htue
      refine ⟨[some (.scr ns), some (.int (k : Int)), some (.int cell), some (enc s), some (.tup ((srtW (wds s)).map .str)), some (enc (pin t a s)), some (.int (C : Int)), some (.int (((wys s).length : Int) + M)), some (.str t), some (.str u), some (enc a), some (enc b), some (enc (pin t a (pin u b s)))], ?_, ⟨_, _, _, _, _, _, _, _, _, _, _, _, rfl⟩⟩
      rw [hcm] at p7
      simp [b32, Fn.f_law_k32, forF, kFor2, ce, s89, s2, hcell, e1', wo, mx1, mx2, at1, at2, SZ_val, p1, p2, p3, p4, p5, p6, p7, es, en, eboth, ea', eb', won, woa, my, sn, ss, sa, k1, k2, k3, hsc, sc, hM, i1, i2, strO, htue]
      done)
  simp [Fn.f_law_k32, start, s10]
  simp [b32, Fn.f_law_k32] at q
  rw [q]
  simp
end
end SM

namespace Lw
open PySem
noncomputable def T : PL.Tab := [(20, Fn.f_kind), (21, Fn.f_parts), (22, Fn.f_with_parts), (23, Fn.f_size), (25, Fn.f_ways), (26, Fn.f_part_at), (27, Fn.f_may_be), (137, Fn.f_fitted), (138, Fn.f_put_in), (142, Fn.f_words), (7, Fn.f_law_cell), (8, Fn.f_law_mix), (9, Fn.f_law_atom), (10, Fn.f_law_base), (11, Fn.f_law_item), (12, Fn.f_law_draw), (194, Fn.f_law_fresh), (195, Fn.f_law_many), (196, Fn.f_law_k32)]
noncomputable def B : PL.Tb := ⟨T, [("BASES", (.tup [(.str [119, 111, 114, 100]), (.str [104, 101, 108, 100]), (.str [116, 97, 98, 108, 101])]))], ["enumerate", "len", "list", "min", "range", "set", "sorted", "str", "sum", "tuple", "zip"], [], [("NoWay", 1)], none⟩
noncomputable def SS : List Stmt := [topS 5, topS 6, topS 7, topS 8, topS 9, topS 10, topS 11, topS 13, topS 14, topS 15, topS 17, topS 18, topS 19, topS 20, topS 21, topS 22, topS 23, topS 24, topS 25]
theorem tab : PL.tabOk B B.T SS = true := by decide +kernel
theorem defs_mk {K : PySem.W.Frag} (h0 : PL.DefAt K "kind" ["some"] "" "kind" (topS 5)) (h1 : PL.DefAt K "parts" ["some"] "" "parts" (topS 6)) (h2 : PL.DefAt K "with_parts" ["some", "new"] "" "with_parts" (topS 7)) (h3 : PL.DefAt K "size" ["some"] "" "size" (topS 8)) (h4 : PL.DefAt K "ways" ["some"] "" "ways" (topS 9)) (h5 : PL.DefAt K "part_at" ["some", "way"] "" "part_at" (topS 10)) (h6 : PL.DefAt K "may_be" ["some", "k", "new"] "" "may_be" (topS 11)) (h7 : PL.DefAt K "fitted" ["some", "k", "new"] "" "fitted" (topS 13)) (h8 : PL.DefAt K "put_in" ["some", "name", "new"] "" "put_in" (topS 14)) (h9 : PL.DefAt K "words" ["some"] "" "words" (topS 15)) (h10 : PL.DefAt K "_law_cell" ["script", "k"] "" "_law_cell" (topS 17)) (h11 : PL.DefAt K "_law_mix" ["cell", "prime", "many"] "" "_law_mix" (topS 18)) (h12 : PL.DefAt K "_law_atom" ["cell"] "" "_law_atom" (topS 19)) (h13 : PL.DefAt K "_law_base" ["cell", "left"] "" "_law_base" (topS 20)) (h14 : PL.DefAt K "_law_item" ["cell", "left"] "" "_law_item" (topS 21)) (h15 : PL.DefAt K "_law_draw" ["cell", "left"] "" "_law_draw" (topS 22)) (h16 : PL.DefAt K "_law_fresh" ["cell"] "" "_law_fresh" (topS 23)) (h17 : PL.DefAt K "_law_many" ["some", "name"] "" "_law_many" (topS 24)) (h18 : PL.DefAt K "law" ["script"] "" "law" (topS 25)) : PL.defsAt K B.T SS :=
  ⟨h0, h1, h2, h3, h4, h5, h6, h7, h8, h9, h10, h11, h12, h13, h14, h15, h16, h17, h18, trivial⟩
theorem bs_mk {mg : Str → Option Value} (z0 : mg "enumerate" = none) (z1 : mg "len" = none) (z2 : mg "list" = none) (z3 : mg "min" = none) (z4 : mg "range" = none) (z5 : mg "set" = none) (z6 : mg "sorted" = none) (z7 : mg "str" = none) (z8 : mg "sum" = none) (z9 : mg "tuple" = none) (z10 : mg "zip" = none) : ∀ x ∈ B.bs, mg x = none := by
  intro x hx
  simp only [B, List.mem_cons, List.not_mem_nil, or_false] at hx
  rcases hx with rfl | rfl | rfl | rfl | rfl | rfl | rfl | rfl | rfl | rfl | rfl
  · exact z0
  · exact z1
  · exact z2
  · exact z3
  · exact z4
  · exact z5
  · exact z6
  · exact z7
  · exact z8
  · exact z9
  · exact z10
theorem cs_mk {K : PySem.W.Frag} {mg : Str → Option Value} (c0 : ∃ a, mg "BASES" = some (.ref a) ∧ ∀ wd, PL.SqI K wd a [.str (Str.ofString "word"), .str (Str.ofString "held"), .str (Str.ofString "table")]) : ∀ p ∈ B.cs, ∃ u V, mg p.1 = some u ∧ L2.RelV V u ∧ ∀ wd, PL.Rep K wd p.2 V := by
  intro p hp
  simp only [B, List.mem_cons, List.not_mem_nil, or_false] at hp
  rcases hp with rfl
  · obtain ⟨a, e, q⟩ := c0
    exact ⟨_, .ref a, e, rfl, fun wd => .tup (q wd) (.cons (PL.Rep.strOf (by decide +kernel) (by decide +kernel)) (.cons (PL.Rep.strOf (by decide +kernel) (by decide +kernel)) (.cons (PL.Rep.strOf (by decide +kernel) (by decide +kernel)) .nil)))⟩
theorem ks_mk {K : PySem.W.Frag} : ∀ p ∈ B.ks, PL.KlAt K p.1 p.2 := by
  intro p hp
  simp [B] at hp
noncomputable def clF (C0 : Addr) : Nat → Value
  | 1 => .ref C0
  | _ => .none
theorem ex_mk {K : PySem.W.Frag} {C0 : Addr} (x0 : PL.ExcAt K "NoWay" C0) (c0 : PySem.W.isClsIn K C0 = true) (m0_0 : PySem.W.subIn K (.ref C0) (.ref C0) = some true)  : ∃ cl, PL.ExcsAt K B.es cl := by
  refine ⟨clF C0, fun p hp => ?_, fun p hp q hq => ?_⟩
  · simp only [B, List.mem_cons, List.not_mem_nil, or_false] at hp
    rcases hp with rfl
    · exact ⟨C0, rfl, x0⟩
  · simp only [B, List.mem_cons, List.not_mem_nil, or_false] at hp hq
    rcases hp with rfl <;> rcases hq with rfl
    · exact PL.exm_mk x0.sub c0 x0.ty m0_0
theorem hd0 {K : PySem.W.Frag} (c : He.SaysD fa fnD K) : PL.DefAt K "kind" ["some"] "" "kind" (topS 5) := PL.DefAt.ofE (c.def_ 0 (d := dd0) rfl) (c.fact 0 rfl) (fun _ _ _ _ _ _ us hl => match us, hl with | [_], _ => rfl)
theorem hd1 {K : PySem.W.Frag} (c : He.SaysD fa fnD K) : PL.DefAt K "parts" ["some"] "" "parts" (topS 6) := PL.DefAt.ofE (c.def_ 1 (d := dd1) rfl) (c.fact 1 rfl) (fun _ _ _ _ _ _ us hl => match us, hl with | [_], _ => rfl)
theorem hd2 {K : PySem.W.Frag} (c : He.SaysD fa fnD K) : PL.DefAt K "with_parts" ["some", "new"] "" "with_parts" (topS 7) := PL.DefAt.ofE (c.def_ 2 (d := dd2) rfl) (c.fact 2 rfl) (fun _ _ _ _ _ _ us hl => match us, hl with | [_, _], _ => rfl)
theorem hd3 {K : PySem.W.Frag} (c : He.SaysD fa fnD K) : PL.DefAt K "size" ["some"] "" "size" (topS 8) := PL.DefAt.ofE (c.def_ 3 (d := dd3) rfl) (c.fact 3 rfl) (fun _ _ _ _ _ _ us hl => match us, hl with | [_], _ => rfl)
theorem hd4 {K : PySem.W.Frag} (c : He.SaysD fa fnD K) : PL.DefAt K "ways" ["some"] "" "ways" (topS 9) := PL.DefAt.ofE (c.def_ 4 (d := dd4) rfl) (c.fact 4 rfl) (fun _ _ _ _ _ _ us hl => match us, hl with | [_], _ => rfl)
theorem hd5 {K : PySem.W.Frag} (c : He.SaysD fa fnD K) : PL.DefAt K "part_at" ["some", "way"] "" "part_at" (topS 10) := PL.DefAt.ofE (c.def_ 5 (d := dd5) rfl) (c.fact 5 rfl) (fun _ _ _ _ _ _ us hl => match us, hl with | [_, _], _ => rfl)
theorem hd6 {K : PySem.W.Frag} (c : He.SaysD fa fnD K) : PL.DefAt K "may_be" ["some", "k", "new"] "" "may_be" (topS 11) := PL.DefAt.ofE (c.def_ 6 (d := dd6) rfl) (c.fact 6 rfl) (fun _ _ _ _ _ _ us hl => match us, hl with | [_, _, _], _ => rfl)
theorem hd7 {K : PySem.W.Frag} (c : He.SaysD fa fnD K) : PL.DefAt K "fitted" ["some", "k", "new"] "" "fitted" (topS 13) := PL.DefAt.ofE (c.def_ 7 (d := dd7) rfl) (c.fact 7 rfl) (fun _ _ _ _ _ _ us hl => match us, hl with | [_, _, _], _ => rfl)
theorem hd8 {K : PySem.W.Frag} (c : He.SaysD fa fnD K) : PL.DefAt K "put_in" ["some", "name", "new"] "" "put_in" (topS 14) := PL.DefAt.ofE (c.def_ 8 (d := dd8) rfl) (c.fact 8 rfl) (fun _ _ _ _ _ _ us hl => match us, hl with | [_, _, _], _ => rfl)
theorem hd9 {K : PySem.W.Frag} (c : He.SaysD fa fnD K) : PL.DefAt K "words" ["some"] "" "words" (topS 15) := PL.DefAt.ofE (c.def_ 9 (d := dd9) rfl) (c.fact 9 rfl) (fun _ _ _ _ _ _ us hl => match us, hl with | [_], _ => rfl)
theorem hd10 {K : PySem.W.Frag} (c : He.SaysD fa fnD K) : PL.DefAt K "_law_cell" ["script", "k"] "" "_law_cell" (topS 17) := PL.DefAt.ofE (c.def_ 10 (d := dd10) rfl) (c.fact 10 rfl) (fun _ _ _ _ _ _ us hl => match us, hl with | [_, _], _ => rfl)
theorem hd11 {K : PySem.W.Frag} (c : He.SaysD fa fnD K) : PL.DefAt K "_law_mix" ["cell", "prime", "many"] "" "_law_mix" (topS 18) := PL.DefAt.ofE (c.def_ 11 (d := dd11) rfl) (c.fact 11 rfl) (fun _ _ _ _ _ _ us hl => match us, hl with | [_, _, _], _ => rfl)
theorem hd12 {K : PySem.W.Frag} (c : He.SaysD fa fnD K) : PL.DefAt K "_law_atom" ["cell"] "" "_law_atom" (topS 19) := PL.DefAt.ofE (c.def_ 12 (d := dd12) rfl) (c.fact 12 rfl) (fun _ _ _ _ _ _ us hl => match us, hl with | [_], _ => rfl)
theorem hd13 {K : PySem.W.Frag} (c : He.SaysD fa fnD K) : PL.DefAt K "_law_base" ["cell", "left"] "" "_law_base" (topS 20) := PL.DefAt.ofE (c.def_ 13 (d := dd13) rfl) (c.fact 13 rfl) (fun _ _ _ _ _ _ us hl => match us, hl with | [_, _], _ => rfl)
theorem hd14 {K : PySem.W.Frag} (c : He.SaysD fa fnD K) : PL.DefAt K "_law_item" ["cell", "left"] "" "_law_item" (topS 21) := PL.DefAt.ofE (c.def_ 14 (d := dd14) rfl) (c.fact 14 rfl) (fun _ _ _ _ _ _ us hl => match us, hl with | [_, _], _ => rfl)
theorem hd15 {K : PySem.W.Frag} (c : He.SaysD fa fnD K) : PL.DefAt K "_law_draw" ["cell", "left"] "" "_law_draw" (topS 22) := PL.DefAt.ofE (c.def_ 15 (d := dd15) rfl) (c.fact 15 rfl) (fun _ _ _ _ _ _ us hl => match us, hl with | [_, _], _ => rfl)
theorem hd16 {K : PySem.W.Frag} (c : He.SaysD fa fnD K) : PL.DefAt K "_law_fresh" ["cell"] "" "_law_fresh" (topS 23) := PL.DefAt.ofE (c.def_ 16 (d := dd16) rfl) (c.fact 16 rfl) (fun _ _ _ _ _ _ us hl => match us, hl with | [_], _ => rfl)
theorem hd17 {K : PySem.W.Frag} (c : He.SaysD fa fnD K) : PL.DefAt K "_law_many" ["some", "name"] "" "_law_many" (topS 24) := PL.DefAt.ofE (c.def_ 17 (d := dd17) rfl) (c.fact 17 rfl) (fun _ _ _ _ _ _ us hl => match us, hl with | [_, _], _ => rfl)
theorem hd18 {K : PySem.W.Frag} (c : He.SaysD fa fnD K) : PL.DefAt K "law" ["script"] "" "law" (topS 25) := PL.DefAt.ofE (c.def_ 18 (d := dd18) rfl) (c.fact 18 rfl) (fun _ _ _ _ _ _ us hl => match us, hl with | [_], _ => rfl)
end Lw

namespace Lw
noncomputable def M : Nat := 60
theorem law_true : PL.LawTrue B.T (M + 1) 196 := SM.law32 ⟨rfl, rfl, rfl, rfl, rfl, rfl⟩ ⟨⟨⟨rfl, rfl⟩, rfl, rfl⟩, rfl, rfl⟩ rfl rfl rfl rfl rfl rfl rfl
end Lw

open PySem PySem.W PySem.Calls PyProof.Rows
set_option maxRecDepth 100000 in
set_option maxHeartbeats 0 in
theorem PySem.Challenge.cw_sumlays_k32_whole_two_put_in_holds : PySem.Challenge.rw_sumlays_k32_whole_two_put_in.Holds := by
  w_on; o_law
  refine HandSHeadRun.head_any (r := OpenLaw.row PySem.Challenge.rw_sumlays_k32_whole_two_put_in) (q := view (OpenLaw.row PySem.Challenge.rw_sumlays_k32_whole_two_put_in).prog [25]) (H := Lw.hk) (ob := Lw.ob) (M := 20000) (loose := Lw.names) (d := HandSHeadRun.topDef (OpenLaw.row PySem.Challenge.rw_sumlays_k32_whole_two_put_in).prog 25) (kwd := []) Lw.ob_eq
    (by kernel_rfl) (fun s => by kernel_rfl) Lw.run (by kernel_rfl) (by kernel_rfl) (by kernel_rfl) (by rfl) (by first | assumption | decide +kernel) (by decide +kernel) ⟨rfl, rfl, rfl, rfl, rfl, by decide +kernel⟩ ?hw ?hc
  case hw => w_witness2
  case hc =>
    refine PL.walkE (l := PySem.Challenge.rw_sumlays_k32_whole_two_put_in) (m := 2 * Lw.M + 2) (S := fun K => He.SaysD Lw.fa Lw.fnD K ∧ (Lw.exs K).all id = true) rfl (by kernel_rfl) ⟨rfl, by decide, by decide⟩ (by kernel_rfl) (fun w h Y => Y) ?F
    intro w K mg fa h hS KX G hmg
    obtain ⟨c, x⟩ := hS
    refine PL.law_ok (B := Lw.B) (ss := Lw.SS) (i := 196) Lw.tab ?defs (fun x v e => PySem.W.mg_of KX G e) ?bs ?cs ?ks ?ex rfl rfl rfl rfl Lw.law_true hmg
    case defs => exact Lw.defs_mk (Lw.hd0 c) (Lw.hd1 c) (Lw.hd2 c) (Lw.hd3 c) (Lw.hd4 c) (Lw.hd5 c) (Lw.hd6 c) (Lw.hd7 c) (Lw.hd8 c) (Lw.hd9 c) (Lw.hd10 c) (Lw.hd11 c) (Lw.hd12 c) (Lw.hd13 c) (Lw.hd14 c) (Lw.hd15 c) (Lw.hd16 c) (Lw.hd17 c) (Lw.hd18 c)
    case bs => exact Lw.bs_mk (He.free_ok KX G (c.fact 19 rfl)) (He.free_ok KX G (c.fact 20 rfl)) (He.free_ok KX G (c.fact 21 rfl)) (He.free_ok KX G (c.fact 22 rfl)) (He.free_ok KX G (c.fact 23 rfl)) (He.free_ok KX G (c.fact 24 rfl)) (He.free_ok KX G (c.fact 25 rfl)) (He.free_ok KX G (c.fact 26 rfl)) (He.free_ok KX G (c.fact 27 rfl)) (He.free_ok KX G (c.fact 28 rfl)) (He.free_ok KX G (c.fact 29 rfl))
    case cs => exact Lw.cs_mk (K := K) (PL.tupMg KX G (PL.exAt x 0 rfl))
    case ks => exact Lw.ks_mk (K := K) 
    case ex => exact PL.no_word rfl (Lw.ex_mk (PL.ExcAt.ofE (c.fact 30 rfl) (c.fact 31 rfl)) (of_decide_eq_true (PL.exAt x 1 rfl)) (of_decide_eq_true (PL.exAt x 2 rfl)))
