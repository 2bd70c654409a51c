import PyProof.Rows.All
import HandS.ExcInit
import HandS.HeadHook4
import PySem.Challenge.RW_recalcrows_k70_errors_made
import Wide.All
import OpenK.AllK
import Wide.FinOn
import KE.KeyNested
import KE.KDictKeyed
import HandS.ForMost
import HandS.Exc
import HandS.ExcOwn
import HandS.WordsExc
import HandS.IsInst
import HandS.Deep
import HandS.Style
import HandS.Wide
import HandS.Walk
import HandS.DictComp
import HandS.CallSlots
import KE.DataMinMax
import KE.SortData
import HandS.Conv
import HandS.Lambda
import HandS.Defaults
import HandS.Head0
import HandS.Head1
import HandS.Head2
import HandS.HeadEnd
import HandS.HeadHook1
import HandS.HeadHook2
import HandS.TupLen
import PyProof.AutoSeq1
import HandS.Flow
import KE.KEqNest
import PyProof.EqAt
import PyProof.EqKinds
import HandS.NoneIn
import HandS.Strs
import HandS.Remove
import HandS.Rev
import PyProof.ListStr
import HandS.Sort
import KE.KDictSum
import HandS.Zip
import KE.KDictZip
import KE.KItemsList
import KE.KDictDisplayH
import HandS.ExcCtx
import HandS.ExcIs
import HandS.ExcValue
import KE.KExcIs
import HandS.ExcField
set_option Elab.async false
set_option linter.all false
set_option maxRecDepth 100000
set_option maxHeartbeats 4000000
namespace VI
open PySem L2 PySem.Spec PyProof.Rows
def oexIn (K : PySem.W.Frag) (C : Addr) : Bool := match K.lookup C with
  | some ⟨.type "type", _, .cls cd, sl⟩ => (match cd.mro, sl.toList with
    | .ref C' :: bm, [_, _, _, _, some (.builtin n), _] => C' == C && n == "ValueError.__new__" && !cd.hasDel && cd.hasDict && PySem.HandSPX.refsVE bm
    | _, _ => false)
  | _ => false
def eqOO (a b : Option (Option Value)) : Bool := decide (a = b)
def xsIn (K : PySem.W.Frag) (C : Addr) : Bool := oexIn K C && (eqOO (PySem.W.findIn K (.ref C) "__setattr__") (some (some (.builtin "object.__setattr__"))) && (decide (PySem.W.subIn K (.ref C) (.type "BaseException") = some true) && (decide (PySem.W.typeIn K (.ref C) = some (.type "type")) && (PySem.W.keepIn K (.ref C) &&
  (eqOO (PySem.W.findIn K (.ref C) "__getattribute__") (some (some (.builtin "BaseException.__getattribute__"))) && (eqOO (PySem.W.findIn K (.ref C) "__getattr__") (some none) && (PySem.W.hasDictIn K C && (eqOO (PySem.W.findIn K (.ref C) "__class__") (some (some (.builtin "object.__class__"))) &&
  (eqOO (PySem.W.specialIn K (.builtin "object.__class__") "__get__") (some (some (.builtin "getset_descriptor.__get__"))) && (decide (PySem.W.takesIn K (.builtin "object.__class__") = some true) && decide (PySem.W.mroIn K C (.type "object") = some true)))))))))))
def biIn (K : PySem.W.Frag) (S : Addr) : Bool := eqOO (PySem.W.specialIn K (.ref S) "__getattribute__") (some (some (.builtin "type.__getattribute__"))) && (PySem.W.readsIn K S (.type "type") && (match PySem.W.findCls K (.ref S) (.type "type") "__init__" with
  | some (.val (.builtin n)) => n == "ValueError.__init__"
  | _ => false))
inductive Fx where
  | xs (x : Str) | bi (x : Str)
  | isk (x y : Str) (b : Bool) | ist (x : Str) (T : String) (b : Bool)
def Fx.ok (K : PySem.W.Frag) : Fx → Bool
  | .xs x => xsIn K (He.ga K x)
  | .bi x => biIn K (He.ga K x)
  | .isk x y b => decide (PySem.W.kitOne K (.ref (He.ga K x)) (.ref (He.ga K y)) = some b)
  | .ist x T b => decide (PySem.W.kitOne K (.ref (He.ga K x)) (.type T) = some b)
def asE (g : Addr → Option Obj) (n : Nat) : List Addr := PySem.cStatics :: He.asD g n
def obsE0 (fa : List He.Fa) (fn : List He.DefD) (fx : List Fx) (K : PySem.W.Frag) : Bool × He.AlD := (fx.all fun f => f.ok K, He.obsD fa fn K)
def obsE (n : Nat) (fa : List He.Fa) (fn : List He.DefD) (fx : List Fx) (g : Addr → Option Obj) : Bool × He.AlD := obsE0 fa fn fx (He.frG g (asE g n))
def SaysE (fa : List He.Fa) (fn : List He.DefD) (fx : List Fx) (K : PySem.W.Frag) : Prop := (fx.all fun f => f.ok K) = true ∧ He.SaysD fa fn K
def hookE (n : Nat) (fa : List He.Fa) (fn : List He.DefD) (fx : List Fx) : PySem.W.Hook where
  α := Bool × He.AlD
  obs := fun s => obsE n fa fn fx s.heap.get?
  val := fun _ => (true, He.valD fn)
  says := fun _ h => ∃ K : PySem.W.Frag, K.In h ∧ SaysE fa fn fx K
  of := fun _ _ e => ⟨_, He.frG_in, congrArg (fun z : Bool × He.AlD => z.1) e, congrArg (fun z : Bool × He.AlD => z.2) e⟩
  keeps := fun _ _ _ ⟨K, hK, c⟩ k => ⟨K, PySem.W.Frag.In.keeps hK k, c⟩
theorem obsE_eq {n : Nat} {fa : List He.Fa} {fn : List He.DefD} {fx : List Fx} {g : Addr → Option Obj} {s : Shared} (h : ∀ a, g a = s.heap.get? a) : obsE n fa fn fx g = (hookE n fa fn fx).obs s := by
  have e : g = s.heap.get? := funext h
  rw [e] <;> rfl
end VI
namespace VK
open PySem PySem.Spec PyProof.Rows L2
def top (i : Nat) : Stmt := PySem.Challenge.pw_recalcrows_k70_errors_made.main.body.getD i (.Pass ⟨0, 0, 0, 0⟩)
def clsB : Stmt → List Stmt
  | .ClassDef (body := b) .. => b
  | _ => []
def mth (i j : Nat) : Stmt := (clsB (top i)).getD j (.Pass ⟨0, 0, 0, 0⟩)
def nm_0 : List Str := ["SheetError", "InvalidShape", "UnknownCell", "InvalidRow", "InvalidWalk", "InvalidNumber", "InvalidText", "Ring", "TooMany", "NothingToUndo", "_law_mixed", "_law_pile", "_law_take", "_law_names", "_law_classes", "_law_ring_right"]
abbrev nms : List Str := nm_0
def fns : List He.DefD := [⟨("_law_pile", none), "_law_pile", "_law_pile", defArgs (top 13), defBody (top 13), defScope (top 13), [], []⟩,
  ⟨("_law_mixed", none), "_law_mixed", "_law_mixed", defArgs (top 12), defBody (top 12), defScope (top 12), [], []⟩,
  ⟨("_law_take", none), "_law_take", "_law_take", defArgs (top 14), defBody (top 14), defScope (top 14), [], []⟩,
  ⟨("_law_names", none), "_law_names", "_law_names", defArgs (top 15), defBody (top 15), defScope (top 15), [], []⟩,
  ⟨("_law_ring_right", none), "_law_ring_right", "_law_ring_right", defArgs (top 17), defBody (top 17), defScope (top 17), [], []⟩,
  ⟨("_law_classes", none), "_law_classes", "_law_classes", defArgs (top 16), defBody (top 16), defScope (top 16), [], []⟩,
  ⟨("law", none), "law", "law", defArgs (top 18), defBody (top 18), defScope (top 18), [], []⟩,
  ⟨("Ring", some "__init__"), "__init__", "Ring.__init__", defArgs (mth 8 0), defBody (mth 8 0), defScope (mth 8 0), [], []⟩,
  ⟨("InvalidShape", some "__init__"), "__init__", "InvalidShape.__init__", defArgs (mth 2 0), defBody (mth 2 0), defScope (mth 2 0), [], []⟩,
  ⟨("UnknownCell", some "__init__"), "__init__", "UnknownCell.__init__", defArgs (mth 3 0), defBody (mth 3 0), defScope (mth 3 0), [], []⟩,
  ⟨("InvalidRow", some "__init__"), "__init__", "InvalidRow.__init__", defArgs (mth 4 0), defBody (mth 4 0), defScope (mth 4 0), [], []⟩,
  ⟨("InvalidWalk", some "__init__"), "__init__", "InvalidWalk.__init__", defArgs (mth 5 0), defBody (mth 5 0), defScope (mth 5 0), [], []⟩,
  ⟨("InvalidNumber", some "__init__"), "__init__", "InvalidNumber.__init__", defArgs (mth 6 0), defBody (mth 6 0), defScope (mth 6 0), [], []⟩,
  ⟨("InvalidText", some "__init__"), "__init__", "InvalidText.__init__", defArgs (mth 7 0), defBody (mth 7 0), defScope (mth 7 0), [], []⟩,
  ⟨("TooMany", some "__init__"), "__init__", "TooMany.__init__", defArgs (mth 9 0), defBody (mth 9 0), defScope (mth 9 0), [], []⟩,
  ⟨("NothingToUndo", some "__init__"), "__init__", "NothingToUndo.__init__", defArgs (mth 10 0), defBody (mth 10 0), defScope (mth 10 0), [], []⟩]
def fxs : List VI.Fx := [.xs "Ring", .bi "SheetError", .xs "InvalidShape", .xs "UnknownCell", .xs "InvalidRow", .xs "InvalidWalk", .xs "InvalidNumber", .xs "InvalidText", .xs "TooMany", .xs "NothingToUndo", .isk "InvalidShape" "InvalidShape" true, .isk "UnknownCell" "InvalidShape" false, .isk "InvalidRow" "InvalidShape" false, .isk "InvalidWalk" "InvalidShape" false, .isk "InvalidNumber" "InvalidShape" false, .isk "InvalidText" "InvalidShape" false, .isk "Ring" "InvalidShape" false, .isk "TooMany" "InvalidShape" false, .isk "NothingToUndo" "InvalidShape" false, .isk "InvalidShape" "UnknownCell" false, .isk "UnknownCell" "UnknownCell" true, .isk "InvalidRow" "UnknownCell" false, .isk "InvalidWalk" "UnknownCell" false, .isk "InvalidNumber" "UnknownCell" false, .isk "InvalidText" "UnknownCell" false, .isk "Ring" "UnknownCell" false, .isk "TooMany" "UnknownCell" false, .isk "NothingToUndo" "UnknownCell" false, .isk "InvalidShape" "InvalidRow" false, .isk "UnknownCell" "InvalidRow" false, .isk "InvalidRow" "InvalidRow" true, .isk "InvalidWalk" "InvalidRow" false, .isk "InvalidNumber" "InvalidRow" false, .isk "InvalidText" "InvalidRow" false, .isk "Ring" "InvalidRow" false, .isk "TooMany" "InvalidRow" false, .isk "NothingToUndo" "InvalidRow" false, .isk "InvalidShape" "InvalidWalk" false, .isk "UnknownCell" "InvalidWalk" false, .isk "InvalidRow" "InvalidWalk" false, .isk "InvalidWalk" "InvalidWalk" true, .isk "InvalidNumber" "InvalidWalk" false, .isk "InvalidText" "InvalidWalk" false, .isk "Ring" "InvalidWalk" false, .isk "TooMany" "InvalidWalk" false, .isk "NothingToUndo" "InvalidWalk" false, .isk "InvalidShape" "InvalidNumber" false, .isk "UnknownCell" "InvalidNumber" false, .isk "InvalidRow" "InvalidNumber" false, .isk "InvalidWalk" "InvalidNumber" false, .isk "InvalidNumber" "InvalidNumber" true, .isk "InvalidText" "InvalidNumber" false, .isk "Ring" "InvalidNumber" false, .isk "TooMany" "InvalidNumber" false, .isk "NothingToUndo" "InvalidNumber" false, .isk "InvalidShape" "InvalidText" false, .isk "UnknownCell" "InvalidText" false, .isk "InvalidRow" "InvalidText" false, .isk "InvalidWalk" "InvalidText" false, .isk "InvalidNumber" "InvalidText" false, .isk "InvalidText" "InvalidText" true, .isk "Ring" "InvalidText" false, .isk "TooMany" "InvalidText" false, .isk "NothingToUndo" "InvalidText" false, .isk "InvalidShape" "Ring" false, .isk "UnknownCell" "Ring" false, .isk "InvalidRow" "Ring" false, .isk "InvalidWalk" "Ring" false, .isk "InvalidNumber" "Ring" false, .isk "InvalidText" "Ring" false, .isk "Ring" "Ring" true, .isk "TooMany" "Ring" false, .isk "NothingToUndo" "Ring" false, .isk "InvalidShape" "TooMany" false, .isk "UnknownCell" "TooMany" false, .isk "InvalidRow" "TooMany" false, .isk "InvalidWalk" "TooMany" false, .isk "InvalidNumber" "TooMany" false, .isk "InvalidText" "TooMany" false, .isk "Ring" "TooMany" false, .isk "TooMany" "TooMany" true, .isk "NothingToUndo" "TooMany" false, .isk "InvalidShape" "NothingToUndo" false, .isk "UnknownCell" "NothingToUndo" false, .isk "InvalidRow" "NothingToUndo" false, .isk "InvalidWalk" "NothingToUndo" false, .isk "InvalidNumber" "NothingToUndo" false, .isk "InvalidText" "NothingToUndo" false, .isk "Ring" "NothingToUndo" false, .isk "TooMany" "NothingToUndo" false, .isk "NothingToUndo" "NothingToUndo" true, .isk "InvalidShape" "SheetError" true, .isk "UnknownCell" "SheetError" true, .isk "InvalidRow" "SheetError" true, .isk "InvalidWalk" "SheetError" true, .isk "InvalidNumber" "SheetError" true, .isk "InvalidText" "SheetError" true, .isk "Ring" "SheetError" true, .isk "TooMany" "SheetError" true, .isk "NothingToUndo" "SheetError" true, .ist "InvalidShape" "ValueError" true, .ist "UnknownCell" "ValueError" true, .ist "InvalidRow" "ValueError" true, .ist "InvalidWalk" "ValueError" true, .ist "InvalidNumber" "ValueError" true, .ist "InvalidText" "ValueError" true, .ist "Ring" "ValueError" true, .ist "TooMany" "ValueError" true, .ist "NothingToUndo" "ValueError" true]
def fas : List He.Fa := [.glo "law", .free "len", .free "int", .free "abs", .glo "_law_mixed", .glo "_law_take", .free "range", .free "enumerate", .free "list", .glo "Ring", .free "isinstance", .glo "InvalidShape", .glo "UnknownCell", .glo "InvalidRow", .glo "InvalidWalk", .glo "InvalidNumber", .glo "InvalidText", .glo "TooMany", .glo "NothingToUndo", .glo "SheetError", .free "ValueError", .glo "_law_pile", .glo "_law_names", .glo "_law_classes", .glo "_law_ring_right", .meth "Ring" "__init__", .noat "Ring" "cells", .meth "InvalidShape" "__init__", .noat "InvalidShape" "cell", .meth "UnknownCell" "__init__", .noat "UnknownCell" "name", .meth "InvalidRow" "__init__", .noat "InvalidRow" "index", .meth "InvalidWalk" "__init__", .noat "InvalidWalk" "index", .meth "InvalidNumber" "__init__", .noat "InvalidNumber" "number", .meth "InvalidText" "__init__", .noat "InvalidText" "line", .noat "InvalidText" "column", .meth "TooMany" "__init__", .noat "TooMany" "limit", .meth "NothingToUndo" "__init__"]
abbrev R : PySem.W.OpenRow := PySem.W.OpenLaw.row PySem.Challenge.rw_recalcrows_k70_errors_made
abbrev hk : PySem.W.Hook := VI.hookE 4 fas fns fxs
def ob (s : PySem.W.SharedT) : Bool × He.AlD := VI.obsE 4 fas fns fxs (HandSHeadRun.getT s)
theorem ob_eq (s : PySem.W.SharedT) : ob s = hk.obs s.abs := VI.obsE_eq (HandSHeadRun.getT_eq s)
theorem run (w : World) : HandSHeadRun.RunEq R (PySem.W.view R.prog [18]) hk ob 14000 nms w := by
  intro os
  kernel_rfl
end VK
namespace VN
open PySem PySem.Spec PyProof.Rows L2
abbrev NK := NestedKey
mutual

def NKV (H : Hp) : NK → V → Prop
  | .none, v => v = .non
  | .num i, v => v = .int i
  | .text x, v => v = .str x
  | .tup ks, v => ∃ b vs, v = .ref b ∧ H b = some (.tup vs) ∧ NKVs H ks vs
def NKVs (H : Hp) : List NK → List V → Prop
  | [], vs => vs = []
  | k :: ks, vs => ∃ v vs', vs = v :: vs' ∧ NKV H k v ∧ NKVs H ks vs'
end
mutual
theorem NKV.keep {H H' : Hp} (ht : ∀ b ys, H b = some (.tup ys) → H' b = some (.tup ys)) : ∀ (k : NK) (v : V), NKV H k v → NKV H' k v
  | .none, _, h => by simpa [NKV] using h
  | .num _, _, h => by simpa [NKV] using h
  | .text _, _, h => by simpa [NKV] using h
  | .tup ks, v, h => by
    simp only [NKV] at h ⊢
    obtain ⟨b, vs, e, hb, r⟩ := h
    exact ⟨b, vs, e, ht b vs hb, NKVs.keep ht ks vs r⟩
theorem NKVs.keep {H H' : Hp} (ht : ∀ b ys, H b = some (.tup ys) → H' b = some (.tup ys)) : ∀ (ks : List NK) (vs : List V), NKVs H ks vs → NKVs H' ks vs
  | [], _, h => by simpa [NKVs] using h
  | k :: ks, vs, h => by
    simp only [NKVs] at h ⊢
    obtain ⟨v, vs', e, h1, h2⟩ := h
    exact ⟨v, vs', e, NKV.keep ht k v h1, NKVs.keep ht ks vs' h2⟩
end
abbrev NE := NK × Addr × V
abbrev NP : List NE → List (NK × Addr × Value) → Prop := Paired fun p q => p.1 = q.1 ∧ p.2.1 = q.2.1 ∧ RelV p.2.2 q.2.2
def ndφ (w : World) (a : Addr) (kvs : List NE) : Heap → Prop := fun h => kvs.length ≤ sizeLine ∧ (a == sysModules) = false ∧ ∃ xs, NP kvs xs ∧
  ∃ o es ep, h.get? a = some o ∧ o.ExactDict ∧ o.data = .dict es ep ∧ es.toList = xs.map (fun x => (⟨x.1.hash w, .ref x.2.1, x.2.2⟩ : DictEntry)) ∧ (xs.map (·.1)).Nodup
def nd (w : World) (a : Addr) (kvs : List NE) : HO := .ext (ndφ w a kvs)
def NKeys (H : Hp) (kvs : List NE) : Prop := ∀ p ∈ kvs, NKV H p.1 (.ref p.2.1) ∧ p.1.depth ≤ 8
theorem NKeys.keep {H H' : Hp} {kvs : List NE} (h : NKeys H kvs) (ht : ∀ b ys, H b = some (.tup ys) → H' b = some (.tup ys)) : NKeys H' kvs := fun p hp => ⟨NKV.keep ht _ _ (h p hp).1, (h p hp).2⟩
def valN (kvs : List NE) (k : NK) : Option V := (kvs.find? fun p => decide (p.1 = k)).map (·.2.2)
def putN (kvs : List NE) (k : NK) (b : Addr) (y : V) : List NE := if (kvs.any fun p => decide (p.1 = k)) = true then kvs.map fun p => if p.1 = k then (p.1, p.2.1, y) else p else kvs ++ [(k, b, y)]
theorem NP.val {kvs : List NE} {xs : List (NK × Addr × Value)} (r : NP kvs xs) (k : NK) : RelO (valN kvs k) ((atKey xs k).map (·.2)) := by
  induction r with
  | nil => exact True.intro
  | @cons p q ps qs h t ih =>
    obtain ⟨h1, _, h2⟩ := h
    by_cases e : p.1 = k
    · have e' : q.1 = k := h1.symm.trans e
      have b : atKey (q :: qs) k = some q.2 := by simp [atKey, List.find?_cons, e']
      have b2 : valN (p :: ps) k = some p.2.2 := by simp [valN, List.find?_cons, e]
      rw [b2, b]
      exact h2
    · have e' : ¬ q.1 = k := fun z => e (h1.trans z)
      have b : atKey (q :: qs) k = atKey qs k := by simp [atKey, List.find?_cons, e']
      have b2 : valN (p :: ps) k = valN ps k := by simp [valN, List.find?_cons, e]
      rw [b2, b]
      exact ih
theorem valN_any (kvs : List NE) (k : NK) : (kvs.any fun p => decide (p.1 = k)) = (valN kvs k).isSome := by
  induction kvs with
  | nil => rfl
  | cons p ps ih =>
    by_cases e : p.1 = k
    · simp [valN, List.find?_cons, e]
    · have b2 : valN (p :: ps) k = valN ps k := by simp [valN, List.find?_cons, e]
      rw [List.any_cons, ih, b2]
      simp [e]
theorem NP.repl {kvs : List NE} {xs : List (NK × Addr × Value)} (r : NP kvs xs) (k : NK) {y : V} {u : Value} (ry : RelV y u) : NP (kvs.map fun p => if p.1 = k then (p.1, p.2.1, y) else p) (xs.map (putAt k u)) := by
  induction r with
  | nil => exact .nil
  | @cons p q ps qs h t ih =>
    rw [List.map_cons, List.map_cons]
    refine .cons ?_ ih
    obtain ⟨h1, h2, h3⟩ := h
    unfold putAt
    by_cases e : p.1 = k
    · rw [if_pos e, if_pos (h1.symm.trans e)]; exact ⟨h1, h2, ry⟩
    · rw [if_neg e, if_neg (fun z => e (h1.trans z))]; exact ⟨h1, h2, h3⟩
theorem NP.put {kvs : List NE} {xs : List (NK × Addr × Value)} (r : NP kvs xs) (k : NK) (b : Addr) {y : V} {u : Value} (ry : RelV y u) : NP (putN kvs k b y) (storedH xs k b u) := by
  have e : (kvs.any fun p => decide (p.1 = k)) = (atKey xs k).isSome := by
    rw [valN_any, (r.val k).isSome_eq, Option.isSome_map]
  unfold putN storedH
  rw [e]
  by_cases q : (atKey xs k).isSome = true
  · rw [if_pos q, if_pos q]; exact r.repl k ry
  · rw [if_neg q, if_neg q]; exact Paired.snoc r ⟨rfl, rfl, ry⟩
end VN
namespace VI
open PySem L2
inductive D where
  | non | bl (b : Bool) | int (i : Int) | str (s : Str)
  | lst (o : Bool) (ds : List D) | tup (ds : List D)
  | dic (o : Bool) (ks : List Key) (ds : List D)
  | ins (C : Str) (fn : List Str) (ds : List D)
  
  | dicN (o : Bool) (ks : List VN.NK) (ds : List D)
  | ref (k : Nat)
  
  | scr (ns : List Int)
  
  | exc (C : Str) (fn : List Str) (ds : List D)
abbrev Cn := Addr → Nat
abbrev cz : Cn := fun _ => 0
abbrev one (a : Addr) : Cn := fun p => if p = a then 1 else 0
abbrev cadd (c d : Cn) : Cn := fun p => c p + d p
structure CT where
  f : Str → Addr
  w : World
instance : CoeFun CT (fun _ => Str → Addr) := ⟨CT.f⟩
theorem rd_mono {F F' : Hp} {a : Addr} {u : HO} (h : ∀ a o, F a = some o → F' a = some o) (s : Rd F a u) : Rd F' a u := by
  rcases s with s | ⟨o, s⟩
  · exact .inl (h _ _ s)
  · exact .inr ⟨o, h _ _ s⟩
def ExK (cls : Value) (d : Option Addr) (a : Addr) : HO := .ext fun h => ∃ (oe : Obj) (vs : Array Value), h.get? a = some oe ∧ Zc cls d oe ∧ oe.data = .fields vs
def XdAt (F : Hp) (d : Option Addr) (fs : List (Str × V)) : Prop := (d = none ∧ fs = []) ∨ ∃ dd, d = some dd ∧ F dd = some (.xd fs)
theorem XdAt.mono {F F' : Hp} {d : Option Addr} {fs : List (Str × V)} (h : ∀ a o, F a = some o → F' a = some o) (s : XdAt F d fs) : XdAt F' d fs := by
  rcases s with s | ⟨dd, s, q⟩
  · exact .inl s
  · exact .inr ⟨dd, s, h _ _ q⟩
structure Hw where
  K : PySem.W.Frag
  ct : CT
  F : Hp
  H : Hp
  A : List Addr
mutual
def RT (E : Hw) : D → V → Cn → Prop
  | .non, v, c => v = .non ∧ c = cz
  | .bl b, v, c => v = .bl b ∧ c = cz
  | .int i, v, c => v = .int i ∧ c = cz
  | .str s, v, c => v = .str s ∧ c = cz
  | .lst false ds, v, c => c = cz ∧ ∃ a vs, v = .ref a ∧ E.F a = some (.lst vs) ∧ RTs E ds vs cz
  | .lst true ds, v, c => ∃ a vs c', v = .ref a ∧ E.H a = some (.lst vs) ∧ RTs E ds vs c' ∧ c = cadd (one a) c'
  | .tup ds, v, c => ∃ a vs, v = .ref a ∧ E.F a = some (.tup vs) ∧ RTs E ds vs c
  | .dic false ks ds, v, c => c = cz ∧ ∃ a kvs, v = .ref a ∧ Rd E.F a (.dK kvs) ∧ kvs.map (·.1) = ks ∧ RTs E ds (kvs.map (·.2)) cz
  | .dic true ks ds, v, c => ∃ a kvs c', v = .ref a ∧ E.H a = some (.dK kvs) ∧ kvs.map (·.1) = ks ∧ RTs E ds (kvs.map (·.2)) c' ∧ c = cadd (one a) c'
  | .ins C fn ds, v, c => c = cz ∧ ∃ a dx fs, v = .ref a ∧ E.F a = some (.ins (E.ct C) dx fs) ∧ fs.map (·.1) = fn ∧ RTs E ds (fs.map (·.2)) cz
  | .dicN false ks ds, v, c => c = cz ∧ ∃ a kvs, v = .ref a ∧ E.F a = some (VN.nd E.ct.w a kvs) ∧ kvs.map (·.1) = ks ∧ VN.NKeys E.F kvs ∧ RTs E ds (kvs.map (·.2.2)) cz
  | .dicN true ks ds, v, c => ∃ a kvs c', v = .ref a ∧ E.H a = some (VN.nd E.ct.w a kvs) ∧ kvs.map (·.1) = ks ∧ VN.NKeys E.F kvs ∧ RTs E ds (kvs.map (·.2.2)) c' ∧ c = cadd (one a) c'
  | .ref k, v, c => c = cz ∧ ∃ a, v = .ref a ∧ E.A[k]? = some a
  | .scr ns, v, c => c = cz ∧ ∃ a, v = .ref a ∧ SqL E.K E.F a (ns.map V.int)
  | .exc C fn ds, v, c => ∃ a d fs, v = .ref a ∧ E.F a = some (ExK (.ref (E.ct C)) d a) ∧ XdAt E.F d fs ∧ fs.map (·.1) = fn ∧ RTs E ds (fs.map (·.2)) c
def RTs (E : Hw) : List D → List V → Cn → Prop
  | [], vs, c => vs = [] ∧ c = cz
  | d :: ds, vs, c => ∃ v vs' c1 c2, vs = v :: vs' ∧ RT E d v c1 ∧ RTs E ds vs' c2 ∧ c = cadd c1 c2
end
theorem cadd_z {c d : Cn} (h : cz = cadd c d) : c = cz ∧ d = cz := by
  constructor
  · funext p
    have := congrFun h p
    simp only [cadd, cz] at this ⊢
    omega
  · funext p
    have := congrFun h p
    simp only [cadd, cz] at this ⊢
    omega
theorem cadd_rz (c : Cn) : cadd c cz = c := rfl
theorem cadd_lz (c : Cn) : cadd cz c = c := by funext p; simp [cadd, cz]
theorem cadd_assoc (a b c : Cn) : cadd (cadd a b) c = cadd a (cadd b c) := by funext p; simp only [cadd]; omega
mutual
def frz : D → D
  | .non => .non | .bl b => .bl b | .int i => .int i | .str s => .str s
  | .lst _ ds => .lst false (frzs ds)
  | .tup ds => .tup (frzs ds)
  | .dic _ ks ds => .dic false ks (frzs ds)
  | .ins C fn ds => .ins C fn (frzs ds)
  | .dicN _ ks ds => .dicN false ks (frzs ds)
  | .ref k => .ref k
  | .scr ns => .scr ns
  | .exc C fn ds => .exc C fn (frzs ds)
def frzs : List D → List D
  | [] => []
  | d :: ds => frz d :: frzs ds
end
mutual

def allF : D → Bool
  | .non => true | .bl _ => true | .int _ => true | .str _ => true
  | .lst o ds => !o && allFs ds
  | .tup ds => allFs ds
  | .dic o _ ds => !o && allFs ds
  | .ins _ _ ds => allFs ds
  | .dicN o _ ds => !o && allFs ds
  | .ref _ => true
  | .scr _ => true
  | .exc _ _ ds => allFs ds
def allFs : List D → Bool
  | [] => true
  | d :: ds => allF d && allFs ds
end
structure Step (E : Hw) (ce : Cn) (E' : Hw) : Prop where
  k : E'.K = E.K
  ct : E'.ct = E.ct
  f : ∀ a o, E.F a = some o → E'.F a = some o
  a : ∃ l, E'.A = E.A ++ l
  h : ∀ a o, ce a ≠ 0 → E.H a = some o → E'.H a = some o
theorem Step.refl (E : Hw) (ce : Cn) : Step E ce E := ⟨rfl, rfl, fun _ _ h => h, ⟨[], by simp⟩, fun _ _ _ h => h⟩
theorem Step.trans {E E1 E2 : Hw} {ce : Cn} (s : Step E ce E1) (t : Step E1 ce E2) : Step E ce E2 :=
  ⟨t.k.trans s.k, t.ct.trans s.ct, fun a o h => t.f a o (s.f a o h), by
    obtain ⟨l, e⟩ := s.a
    obtain ⟨l', e'⟩ := t.a
    exact ⟨l ++ l', by rw [e', e, List.append_assoc]⟩, fun a o n h => t.h a o n (s.h a o n h)⟩
theorem Step.less {E E1 : Hw} {ce c' : Cn} (s : Step E ce E1) (h : ∀ p, c' p ≠ 0 → ce p ≠ 0) : Step E c' E1 :=
  ⟨s.k, s.ct, s.f, s.a, fun a o n q => s.h a o (h a n) q⟩
theorem sqL_mono {K : PySem.W.Frag} {F F' : Hp} {a : Addr} {vs : List V} (h : ∀ a o, F a = some o → F' a = some o) (s : SqL K F a vs) : SqL K F' a vs := by
  rcases s with (s | ⟨o, s⟩) | s
  · exact .inl (.inl (h _ _ s))
  · exact .inl (.inr ⟨o, h _ _ s⟩)
  · exact .inr s
mutual

theorem RT.mono {E E' : Hw} : ∀ (d : D) {v : V} {c : Cn}, Step E c E' → RT E d v c → RT E' d v c
  | .non, _, _, _, h => by simpa [RT] using h
  | .bl _, _, _, _, h => by simpa [RT] using h
  | .int _, _, _, _, h => by simpa [RT] using h
  | .str _, _, _, _, h => by simpa [RT] using h
  | .lst false ds, _, _, s, h => by
    simp only [RT] at h ⊢
    obtain ⟨rfl, a, vs, e, q, r⟩ := h
    exact ⟨rfl, a, vs, e, s.f _ _ q, RTs.mono ds s r⟩
  | .lst true ds, _, _, s, h => by
    simp only [RT] at h ⊢
    obtain ⟨a, vs, c', e, q, r, rfl⟩ := h
    exact ⟨a, vs, c', e, s.h a _ (by simp [cadd, one]) q, RTs.mono ds (s.less fun p hp => by simp only [cadd]; omega) r, rfl⟩
  | .tup ds, _, _, s, h => by
    simp only [RT] at h ⊢
    obtain ⟨a, vs, e, q, r⟩ := h
    exact ⟨a, vs, e, s.f _ _ q, RTs.mono ds s r⟩
  | .dic false ks ds, _, _, s, h => by
    simp only [RT] at h ⊢
    obtain ⟨rfl, a, kvs, e, q, z, r⟩ := h
    exact ⟨rfl, a, kvs, e, rd_mono s.f q, z, RTs.mono ds s r⟩
  | .dic true ks ds, _, _, s, h => by
    simp only [RT] at h ⊢
    obtain ⟨a, kvs, c', e, q, z, r, rfl⟩ := h
    exact ⟨a, kvs, c', e, s.h a _ (by simp [cadd, one]) q, z, RTs.mono ds (s.less fun p hp => by simp only [cadd]; omega) r, rfl⟩
  | .ins C fn ds, _, _, s, h => by
    simp only [RT] at h ⊢
    obtain ⟨rfl, a, dx, fs, e, q, z, r⟩ := h
    rw [s.ct]
    exact ⟨rfl, a, dx, fs, e, s.f _ _ q, z, RTs.mono ds s r⟩
  | .dicN false ks ds, _, _, s, h => by
    simp only [RT] at h ⊢
    obtain ⟨rfl, a, kvs, e, q, z, n, r⟩ := h
    rw [s.ct]
    exact ⟨rfl, a, kvs, e, s.f _ _ q, z, n.keep fun b ys => s.f b _, RTs.mono ds s r⟩
  | .dicN true ks ds, _, _, s, h => by
    simp only [RT] at h ⊢
    obtain ⟨a, kvs, c', e, q, z, n, r, rfl⟩ := h
    rw [s.ct]
    exact ⟨a, kvs, c', e, s.h a _ (by simp [cadd, one]) q, z, n.keep fun b ys => s.f b _, RTs.mono ds (s.less fun p hp => by simp only [cadd]; omega) r, rfl⟩
  | .ref k, _, _, s, h => by
    simp only [RT] at h ⊢
    obtain ⟨rfl, a, e, q⟩ := h
    obtain ⟨l, e'⟩ := s.a
    refine ⟨rfl, a, e, ?_⟩
    rw [e', List.getElem?_append_left (List.getElem?_eq_some_iff.mp q).1]
    exact q
  | .scr ns, _, _, s, h => by
    simp only [RT] at h ⊢
    obtain ⟨rfl, a, e, q⟩ := h
    rw [s.k]
    exact ⟨rfl, a, e, sqL_mono s.f q⟩
  | .exc C fn ds, _, _, s, h => by
    simp only [RT] at h ⊢
    obtain ⟨a, d, fs, e, q, x, z, r⟩ := h
    rw [s.ct]
    exact ⟨a, d, fs, e, s.f _ _ q, x.mono s.f, z, RTs.mono ds s r⟩
theorem RTs.mono {E E' : Hw} : ∀ (ds : List D) {vs : List V} {c : Cn}, Step E c E' → RTs E ds vs c → RTs E' ds vs c
  | [], _, _, _, h => by simpa [RTs] using h
  | d :: ds, _, _, s, h => by
    simp only [RTs] at h ⊢
    obtain ⟨v, vs', c1, c2, e, r, q, rfl⟩ := h
    exact ⟨v, vs', c1, c2, e, RT.mono d (s.less fun p hp => by simp only [cadd]; omega) r, RTs.mono ds (s.less fun p hp => by simp only [cadd]; omega) q, rfl⟩
end
mutual

theorem RT.dom {E : Hw} : ∀ (d : D) {v : V} {c : Cn}, RT E d v c → ∀ p, c p ≠ 0 → E.H p ≠ none
  | .non, _, _, h, p, n => by simp only [RT] at h; rw [h.2] at n; exact absurd rfl n
  | .bl _, _, _, h, p, n => by simp only [RT] at h; rw [h.2] at n; exact absurd rfl n
  | .int _, _, _, h, p, n => by simp only [RT] at h; rw [h.2] at n; exact absurd rfl n
  | .str _, _, _, h, p, n => by simp only [RT] at h; rw [h.2] at n; exact absurd rfl n
  | .lst false ds, _, _, h, p, n => by simp only [RT] at h; rw [h.1] at n; exact absurd rfl n
  | .lst true ds, _, _, h, p, n => by
    simp only [RT] at h
    obtain ⟨a, vs, c', e, q, r, rfl⟩ := h
    by_cases z : p = a
    · rw [z, q]; exact fun w => nomatch w
    · exact RTs.dom ds r p (by simpa [cadd, one, z] using n)
  | .tup ds, _, _, h, p, n => by
    simp only [RT] at h
    obtain ⟨a, vs, e, q, r⟩ := h
    exact RTs.dom ds r p n
  | .dic false ks ds, _, _, h, p, n => by simp only [RT] at h; rw [h.1] at n; exact absurd rfl n
  | .dic true ks ds, _, _, h, p, n => by
    simp only [RT] at h
    obtain ⟨a, kvs, c', e, q, w, r, rfl⟩ := h
    by_cases z : p = a
    · rw [z, q]; exact fun w => nomatch w
    · exact RTs.dom ds r p (by simpa [cadd, one, z] using n)
  | .ins C fn ds, _, _, h, p, n => by simp only [RT] at h; rw [h.1] at n; exact absurd rfl n
  | .dicN false ks ds, _, _, h, p, n => by simp only [RT] at h; rw [h.1] at n; exact absurd rfl n
  | .dicN true ks ds, _, _, h, p, n => by
    simp only [RT] at h
    obtain ⟨a, kvs, c', e, q, w, nn, r, rfl⟩ := h
    by_cases z : p = a
    · rw [z, q]; exact fun w => nomatch w
    · exact RTs.dom ds r p (by simpa [cadd, one, z] using n)
  | .ref k, _, _, h, p, n => by simp only [RT] at h; rw [h.1] at n; exact absurd rfl n
  | .scr _, _, _, h, p, n => by simp only [RT] at h; rw [h.1] at n; exact absurd rfl n
  | .exc C fn ds, _, _, h, p, n => by
    simp only [RT] at h
    obtain ⟨a, d, fs, e, q, x, z, r⟩ := h
    exact RTs.dom ds r p n
theorem RTs.dom {E : Hw} : ∀ (ds : List D) {vs : List V} {c : Cn}, RTs E ds vs c → ∀ p, c p ≠ 0 → E.H p ≠ none
  | [], _, _, h, p, n => by simp only [RTs] at h; rw [h.2] at n; exact absurd rfl n
  | d :: ds, _, _, h, p, n => by
    simp only [RTs] at h
    obtain ⟨v, vs', c1, c2, e, r, q, rfl⟩ := h
    by_cases z : c1 p = 0
    · exact RTs.dom ds q p (by simpa [cadd, z] using n)
    · exact RT.dom d r p z
end
mutual

theorem RT.freeze {E E' : Hw} (k : E'.K = E.K) (ct : E'.ct = E.ct) (hA : E'.A = E.A) (f : ∀ a o, E.F a = some o → E'.F a = some o) : ∀ (d : D) {v : V} {c : Cn}, RT E d v c → (∀ p o, c p ≠ 0 → E.H p = some o → E'.F p = some o) → RT E' (frz d) v cz
  | .non, _, _, h, _ => by simp only [RT, frz] at h ⊢; exact ⟨h.1, trivial⟩
  | .bl _, _, _, h, _ => by simp only [RT, frz] at h ⊢; exact ⟨h.1, trivial⟩
  | .int _, _, _, h, _ => by simp only [RT, frz] at h ⊢; exact ⟨h.1, trivial⟩
  | .str _, _, _, h, _ => by simp only [RT, frz] at h ⊢; exact ⟨h.1, trivial⟩
  | .lst false ds, _, _, h, g => by
    simp only [RT, frz] at h ⊢
    obtain ⟨rfl, a, vs, e, q, r⟩ := h
    exact ⟨trivial, a, vs, e, f _ _ q, RTs.freeze k ct hA f ds r g⟩
  | .lst true ds, _, _, h, g => by
    simp only [RT, frz] at h ⊢
    obtain ⟨a, vs, c', e, q, r, rfl⟩ := h
    exact ⟨trivial, a, vs, e, g a _ (by simp [cadd, one]) q, RTs.freeze k ct hA f ds r fun p o n z => g p o (by simp only [cadd]; omega) z⟩
  | .tup ds, _, _, h, g => by
    simp only [RT, frz] at h ⊢
    obtain ⟨a, vs, e, q, r⟩ := h
    exact ⟨a, vs, e, f _ _ q, RTs.freeze k ct hA f ds r g⟩
  | .dic false ks ds, _, _, h, g => by
    simp only [RT, frz] at h ⊢
    obtain ⟨rfl, a, kvs, e, q, z, r⟩ := h
    exact ⟨trivial, a, kvs, e, rd_mono f q, z, RTs.freeze k ct hA f ds r g⟩
  | .dic true ks ds, _, _, h, g => by
    simp only [RT, frz] at h ⊢
    obtain ⟨a, kvs, c', e, q, z, r, rfl⟩ := h
    exact ⟨trivial, a, kvs, e, .inl (g a _ (by simp [cadd, one]) q), z, RTs.freeze k ct hA f ds r fun p o n z => g p o (by simp only [cadd]; omega) z⟩
  | .ins C fn ds, _, _, h, g => by
    simp only [RT, frz] at h ⊢
    obtain ⟨rfl, a, dx, fs, e, q, z, r⟩ := h
    rw [ct]
    exact ⟨trivial, a, dx, fs, e, f _ _ q, z, RTs.freeze k ct hA f ds r g⟩
  | .dicN false ks ds, _, _, h, g => by
    simp only [RT, frz] at h ⊢
    obtain ⟨rfl, a, kvs, e, q, z, n, r⟩ := h
    rw [ct]
    exact ⟨trivial, a, kvs, e, f _ _ q, z, n.keep fun b ys => f b _, RTs.freeze k ct hA f ds r g⟩
  | .dicN true ks ds, _, _, h, g => by
    simp only [RT, frz] at h ⊢
    obtain ⟨a, kvs, c', e, q, z, n, r, rfl⟩ := h
    rw [ct]
    exact ⟨trivial, a, kvs, e, g a _ (by simp [cadd, one]) q, z, n.keep fun b ys => f b _, RTs.freeze k ct hA f ds r fun p o n z => g p o (by simp only [cadd]; omega) z⟩
  | .ref i, _, _, h, g => by
    simp only [RT, frz] at h ⊢
    obtain ⟨rfl, a, e, q⟩ := h
    exact ⟨trivial, a, e, by rw [hA]; exact q⟩
  | .scr ns, _, _, h, g => by
    simp only [RT, frz] at h ⊢
    obtain ⟨rfl, a, e, q⟩ := h
    rw [k]
    exact ⟨trivial, a, e, sqL_mono f q⟩
  | .exc C fn ds, _, _, h, g => by
    simp only [RT, frz] at h ⊢
    obtain ⟨a, d, fs, e, q, x, z, r⟩ := h
    rw [ct]
    exact ⟨a, d, fs, e, f _ _ q, x.mono f, z, RTs.freeze k ct hA f ds r g⟩
theorem RTs.freeze {E E' : Hw} (k : E'.K = E.K) (ct : E'.ct = E.ct) (hA : E'.A = E.A) (f : ∀ a o, E.F a = some o → E'.F a = some o) : ∀ (ds : List D) {vs : List V} {c : Cn}, RTs E ds vs c → (∀ p o, c p ≠ 0 → E.H p = some o → E'.F p = some o) → RTs E' (frzs ds) vs cz
  | [], _, _, h, _ => by simp only [RTs, frzs] at h ⊢; exact ⟨h.1, trivial⟩
  | d :: ds, _, _, h, g => by
    simp only [RTs, frzs] at h ⊢
    obtain ⟨v, vs', c1, c2, e, r, q, rfl⟩ := h
    exact ⟨v, vs', cz, cz, e, RT.freeze k ct hA f d r fun p o n z => g p o (by simp only [cadd]; omega) z, RTs.freeze k ct hA f ds q fun p o n z => g p o (by simp only [cadd]; omega) z, rfl⟩
end
mutual
theorem RT.allF {E : Hw} : ∀ (d : D) {v : V} {c : Cn}, RT E d v c → allF d = true → c = cz
  | .non, _, _, h, _ => by simp only [RT] at h; exact h.2
  | .bl _, _, _, h, _ => by simp only [RT] at h; exact h.2
  | .int _, _, _, h, _ => by simp only [RT] at h; exact h.2
  | .str _, _, _, h, _ => by simp only [RT] at h; exact h.2
  | .lst false ds, _, _, h, _ => by simp only [RT] at h; exact h.1
  | .lst true ds, _, _, h, g => by simp [VI.allF] at g
  | .tup ds, _, _, h, g => by
    simp only [RT] at h
    obtain ⟨a, vs, e, q, r⟩ := h
    exact RTs.allF ds r (by simpa [VI.allF] using g)
  | .dic false ks ds, _, _, h, _ => by simp only [RT] at h; exact h.1
  | .dic true ks ds, _, _, h, g => by simp [VI.allF] at g
  | .ins C fn ds, _, _, h, _ => by simp only [RT] at h; exact h.1
  | .dicN false ks ds, _, _, h, _ => by simp only [RT] at h; exact h.1
  | .dicN true ks ds, _, _, h, g => by simp [VI.allF] at g
  | .ref k, _, _, h, _ => by simp only [RT] at h; exact h.1
  | .scr _, _, _, h, _ => by simp only [RT] at h; exact h.1
  | .exc C fn ds, _, _, h, g => by
    simp only [RT] at h
    obtain ⟨a, d, fs, e, q, x, z, r⟩ := h
    exact RTs.allF ds r (by simpa [VI.allF] using g)
theorem RTs.allF {E : Hw} : ∀ (ds : List D) {vs : List V} {c : Cn}, RTs E ds vs c → allFs ds = true → c = cz
  | [], _, _, h, _ => by simp only [RTs] at h; exact h.2
  | d :: ds, _, _, h, g => by
    simp only [RTs] at h
    obtain ⟨v, vs', c1, c2, e, r, q, rfl⟩ := h
    simp only [VI.allFs, Bool.and_eq_true] at g
    rw [RT.allF d r g.1, RTs.allF ds q g.2]
    rfl
end
mutual
theorem frz_id : ∀ d, allF d = true → frz d = d
  | .non, _ => rfl | .bl _, _ => rfl | .int _, _ => rfl | .str _, _ => rfl
  | .lst false ds, h => by simp only [allF, Bool.not_false, Bool.true_and] at h; rw [frz, frzs_id ds h]
  | .lst true ds, h => by simp [allF] at h
  | .tup ds, h => by simp only [allF] at h; rw [frz, frzs_id ds h]
  | .dic false ks ds, h => by simp only [allF, Bool.not_false, Bool.true_and] at h; rw [frz, frzs_id ds h]
  | .dic true ks ds, h => by simp [allF] at h
  | .ins C fn ds, h => by simp only [allF] at h; rw [frz, frzs_id ds h]
  | .dicN false ks ds, h => by simp only [allF, Bool.not_false, Bool.true_and] at h; rw [frz, frzs_id ds h]
  | .dicN true ks ds, h => by simp [allF] at h
  | .ref k, _ => rfl
  | .scr _, _ => rfl
  | .exc C fn ds, h => by simp only [allF] at h; rw [frz, frzs_id ds h]
theorem frzs_id : ∀ ds, allFs ds = true → frzs ds = ds
  | [], _ => rfl
  | d :: ds, h => by
    simp only [allFs, Bool.and_eq_true] at h
    rw [frzs, frz_id d h.1, frzs_id ds h.2]
end
theorem RTs.length {E : Hw} : ∀ {ds : List D} {vs : List V} {c : Cn}, RTs E ds vs c → ds.length = vs.length
  | [], _, _, h => by simp only [RTs] at h; rw [h.1]; rfl
  | d :: ds, _, _, h => by
    simp only [RTs] at h
    obtain ⟨v, vs', c1, c2, rfl, r, q, rfl⟩ := h
    simp [RTs.length q]
end VI
namespace VI
open PySem L2
def RE (E : Hw) : List (Option D) → L2.St → Cn → Prop
  | [], σ, c => σ = [] ∧ c = cz
  | none :: ρ, σ, c => ∃ x σ', σ = x :: σ' ∧ RE E ρ σ' c
  | some d :: ρ, σ, c => ∃ v σ' c1 c2, σ = some v :: σ' ∧ RT E d v c1 ∧ RE E ρ σ' c2 ∧ c = cadd c1 c2
structure RO where
  cls : Str
  fn : List Str
  ds : List D
def RM (E : Hw) : List RO → List Addr → Cn → Prop
  | [], A, c => A = [] ∧ c = cz
  | r :: μ, A, c => ∃ a A' dx fs c1 c2, A = a :: A' ∧ E.H a = some (.ins (E.ct r.cls) dx fs) ∧ fs.map (·.1) = r.fn ∧ RTs E r.ds (fs.map (·.2)) c1 ∧ RM E μ A' c2 ∧ c = cadd (one a) (cadd c1 c2)
structure VS where
  ρ : List (Option D)
  μ : List RO
theorem RE.mono {E E' : Hw} : ∀ {ρ : List (Option D)} {σ : L2.St} {c : Cn}, Step E c E' → RE E ρ σ c → RE E' ρ σ c
  | [], _, _, _, h => h
  | none :: ρ, _, _, s, h => by
    simp only [RE] at h ⊢
    obtain ⟨x, σ', e, r⟩ := h
    exact ⟨x, σ', e, RE.mono s r⟩
  | some d :: ρ, _, _, s, h => by
    simp only [RE] at h ⊢
    obtain ⟨v, σ', c1, c2, e, r, q, rfl⟩ := h
    exact ⟨v, σ', c1, c2, e, RT.mono d (s.less fun p hp => by simp only [cadd]; omega) r, RE.mono (s.less fun p hp => by simp only [cadd]; omega) q, rfl⟩
theorem RM.mono {E E' : Hw} : ∀ {μ : List RO} {A : List Addr} {c : Cn}, Step E c E' → RM E μ A c → RM E' μ A c
  | [], _, _, _, h => h
  | r :: μ, _, _, s, h => by
    simp only [RM] at h ⊢
    obtain ⟨a, A', dx, fs, c1, c2, e, q, z, t, m, rfl⟩ := h
    refine ⟨a, A', dx, fs, c1, c2, e, ?_, z, RTs.mono _ (s.less fun p hp => by simp only [cadd]; omega) t, RM.mono (s.less fun p hp => by simp only [cadd]; omega) m, rfl⟩
    rw [s.ct]
    exact s.h a _ (by simp [cadd, one]) q
theorem RE.length {E : Hw} : ∀ {ρ : List (Option D)} {σ : L2.St} {c : Cn}, RE E ρ σ c → ρ.length = σ.length
  | [], _, _, h => by simp only [RE] at h; rw [h.1]; rfl
  | none :: ρ, _, _, h => by
    simp only [RE] at h
    obtain ⟨x, σ', rfl, r⟩ := h
    simp [RE.length r]
  | some d :: ρ, _, _, h => by
    simp only [RE] at h
    obtain ⟨v, σ', c1, c2, rfl, r, q, rfl⟩ := h
    simp [RE.length q]
theorem RE.dom {E : Hw} : ∀ {ρ : List (Option D)} {σ : L2.St} {c : Cn}, RE E ρ σ c → ∀ p, c p ≠ 0 → E.H p ≠ none
  | [], _, _, h, p, n => by simp only [RE] at h; rw [h.2] at n; exact absurd rfl n
  | none :: ρ, _, _, h, p, n => by
    simp only [RE] at h
    obtain ⟨x, σ', rfl, r⟩ := h
    exact RE.dom r p n
  | some d :: ρ, _, _, h, p, n => by
    simp only [RE] at h
    obtain ⟨v, σ', c1, c2, rfl, r, q, rfl⟩ := h
    by_cases z : c1 p = 0
    · exact RE.dom q p (by simpa [cadd, z] using n)
    · exact RT.dom d r p z
theorem RM.dom {E : Hw} : ∀ {μ : List RO} {A : List Addr} {c : Cn}, RM E μ A c → ∀ p, c p ≠ 0 → E.H p ≠ none
  | [], _, _, h, p, n => by simp only [RM] at h; rw [h.2] at n; exact absurd rfl n
  | r :: μ, _, _, h, p, n => by
    simp only [RM] at h
    obtain ⟨a, A', dx, fs, c1, c2, e, q, z, t, m, rfl⟩ := h
    by_cases w : p = a
    · rw [w, q]; exact fun y => nomatch y
    · by_cases z : c1 p = 0
      · exact RM.dom m p (by simpa [cadd, one, w, z] using n)
      · exact RTs.dom _ t p z
theorem RE.at {E : Hw} : ∀ {ρ : List (Option D)} {σ : L2.St} {c : Cn} {i : Nat} {d : D}, RE E ρ σ c → ρ[i]? = some (some d) →
    ∃ v c1 c2, σ[i]? = some (some v) ∧ RT E d v c1 ∧ c = cadd c1 c2 ∧ RE E (ρ.set i none) σ c2
  | [], _, _, _, _, _, e => by simp at e
  | none :: ρ, _, _, 0, _, _, e => by simp at e
  | none :: ρ, _, _, i + 1, d, h, e => by
    simp only [RE] at h
    obtain ⟨x, σ', rfl, r⟩ := h
    obtain ⟨v, c1, c2, e1, t, ec, q⟩ := RE.at (i := i) r (by simpa using e)
    exact ⟨v, c1, c2, by simpa using e1, t, ec, by simp only [List.set_cons_succ, RE]; exact ⟨x, σ', rfl, q⟩⟩
  | some d0 :: ρ, _, _, 0, d, h, e => by
    simp only [RE] at h
    obtain ⟨v, σ', c1, c2, rfl, r, q, rfl⟩ := h
    have ed : d0 = d := by simpa using e
    subst ed
    exact ⟨v, c1, c2, rfl, r, rfl, by simp only [List.set_cons_zero, RE]; exact ⟨_, _, rfl, q⟩⟩
  | some d0 :: ρ, _, _, i + 1, d, h, e => by
    simp only [RE] at h
    obtain ⟨v, σ', c1, c2, rfl, r, q, rfl⟩ := h
    obtain ⟨v', c1', c2', e1, t, rfl, q'⟩ := RE.at (i := i) q (by simpa using e)
    refine ⟨v', c1', cadd c1 c2', by simpa using e1, t, by funext p; simp only [cadd]; omega, ?_⟩
    simp only [List.set_cons_succ, RE]
    exact ⟨v, σ', c1, c2', rfl, r, q', rfl⟩
theorem RE.drop {E : Hw} : ∀ {ρ : List (Option D)} {σ : L2.St} {c : Cn} (i : Nat), RE E ρ σ c → ∃ c', (∀ p, c' p ≤ c p) ∧ RE E (ρ.set i none) σ c'
  | [], _, c, _, h => ⟨c, fun _ => Nat.le_refl _, h⟩
  | none :: ρ, _, c, 0, h => ⟨c, fun _ => Nat.le_refl _, h⟩
  | none :: ρ, _, _, i + 1, h => by
    simp only [RE] at h
    obtain ⟨x, σ', rfl, r⟩ := h
    obtain ⟨c', le, q⟩ := RE.drop i r
    exact ⟨c', le, by simp only [List.set_cons_succ, RE]; exact ⟨x, σ', rfl, q⟩⟩
  | some d0 :: ρ, _, _, 0, h => by
    simp only [RE] at h
    obtain ⟨v, σ', c1, c2, rfl, r, q, rfl⟩ := h
    exact ⟨c2, fun p => by simp only [cadd]; omega, by simp only [List.set_cons_zero, RE]; exact ⟨_, _, rfl, q⟩⟩
  | some d0 :: ρ, _, _, i + 1, h => by
    simp only [RE] at h
    obtain ⟨v, σ', c1, c2, rfl, r, q, rfl⟩ := h
    obtain ⟨c', le, q'⟩ := RE.drop i q
    refine ⟨cadd c1 c', fun p => by have := le p; simp only [cadd]; omega, ?_⟩
    simp only [List.set_cons_succ, RE]
    exact ⟨v, σ', c1, c', rfl, r, q', rfl⟩
theorem RE.put {E : Hw} : ∀ {ρ : List (Option D)} {σ : L2.St} {c c1 : Cn} {i : Nat} {d : D} {v : V}, RE E ρ σ c → ρ[i]? = some none → RT E d v c1 → RE E (ρ.set i (some d)) (σ.set i (some v)) (cadd c1 c)
  | [], _, _, _, _, _, _, _, e, _ => by simp at e
  | none :: ρ, _, _, _, 0, d, v, h, e, r => by
    simp only [RE] at h
    obtain ⟨x, σ', rfl, q⟩ := h
    simp only [List.set_cons_zero, RE]
    exact ⟨v, σ', _, _, rfl, r, q, rfl⟩
  | none :: ρ, _, _, _, i + 1, d, v, h, e, r => by
    simp only [RE] at h
    obtain ⟨x, σ', rfl, q⟩ := h
    simp only [List.set_cons_succ, RE]
    exact ⟨x, _, rfl, RE.put q (by simpa using e) r⟩
  | some d0 :: ρ, _, _, _, 0, _, _, _, e, _ => by simp at e
  | some d0 :: ρ, _, _, c1, i + 1, d, v, h, e, r => by
    simp only [RE] at h
    obtain ⟨v', σ', c1', c2', rfl, r', q, rfl⟩ := h
    simp only [List.set_cons_succ, RE]
    exact ⟨v', _, c1', cadd c1 c2', rfl, r', RE.put q (by simpa using e) r, by funext p; simp only [cadd]; omega⟩
theorem RE.any {E : Hw} : ∀ {ρ : List (Option D)} {σ : L2.St} {c : Cn} {i : Nat} {x : Option V}, RE E ρ σ c → ρ[i]? = some none → RE E ρ (σ.set i x) c
  | [], _, _, _, _, _, e => by simp at e
  | none :: ρ, _, _, 0, x, h, e => by
    simp only [RE] at h ⊢
    obtain ⟨y, σ', rfl, q⟩ := h
    exact ⟨x, σ', rfl, q⟩
  | none :: ρ, _, _, i + 1, x, h, e => by
    simp only [RE] at h ⊢
    obtain ⟨y, σ', rfl, q⟩ := h
    exact ⟨y, _, rfl, RE.any q (by simpa using e)⟩
  | some d0 :: ρ, _, _, 0, _, _, e => by simp at e
  | some d0 :: ρ, _, _, i + 1, x, h, e => by
    simp only [RE] at h ⊢
    obtain ⟨v', σ', c1', c2', rfl, r', q, rfl⟩ := h
    exact ⟨v', _, c1', c2', rfl, r', RE.any q (by simpa using e), rfl⟩
structure Wd (E : Hw) (σ : L2.St) (s : VS) (ce : Cn) : Prop where
  same : ∀ a o, E.F a = some o → E.H a = some o
  own : ∃ c1 c2, RE E s.ρ σ c1 ∧ RM E s.μ E.A c2 ∧ (∀ p, c1 p + c2 p + ce p ≤ 1) ∧ (∀ p, c1 p + c2 p + ce p ≠ 0 → E.F p = none)
  ex : ∀ p, ce p ≠ 0 → E.H p ≠ none
theorem Wd.less {E : Hw} {σ : L2.St} {s : VS} {ce c' : Cn} (w : Wd E σ s ce) (h : ∀ p, c' p ≤ ce p) : Wd E σ s c' := by
  obtain ⟨c1, c2, a, b, t, f⟩ := w.own
  exact ⟨w.same, ⟨c1, c2, a, b, fun p => by have := h p; have := t p; omega, fun p n => f p (by have := h p; omega)⟩, fun p n => w.ex p (by have := h p; omega)⟩
structure EXC where
  cls : Str
  fn : List Str
  ds : List D
inductive Res (α : Type) where
  | ok (a : α) (s : VS)
  | ex (x : EXC) (s : VS)
abbrev M (α : Type) := VS → Option (Res α)
def M.ret {α : Type} (a : α) : M α := fun s => some (.ok a s)
def M.bnd {α β : Type} (m : M α) (f : α → M β) : M β := fun s => match m s with
  | some (.ok a s') => f a s'
  | some (.ex x s') => some (.ex x s')
  | none => none
def ExR (E : Hw) (x : EXC) (cls : Value) (d : Option Addr) : Prop := cls = .ref (E.ct x.cls) ∧ ∃ fs, XdAt E.F d fs ∧ fs.map (·.1) = x.fn ∧ RTs E x.ds (fs.map (·.2)) cz
def RA {α β : Type} (W : WX) (Rel : Hw → α → β → Cn → Prop) (m : M α) (σ : L2.St) (E : Hw) (s : VS) (ce : Cn) (Q : β → Hp → Prop) : Prop := match m s with
    | some (.ok a s') => ∀ (b : β) (E' : Hw) (c : Cn), Step E ce E' → Rel E' a b c → Wd E' σ s' (cadd ce c) → Q b E'.H
    | some (.ex x s') => ∀ (cls : Value) (d : Option Addr) (E' : Hw), Step E ce E' → ExR E' x cls d → Wd E' σ s' ce → W cls d σ E'.H
    | none => False
def Run {α β : Type} (K : PySem.W.Frag) (ct : CT) (W : WX) (Rel : Hw → α → β → Cn → Prop) (m : M α) (σ : L2.St) (H : Hp) (Q : β → Hp → Prop) : Prop :=
  ∃ (E : Hw) (s : VS) (ce : Cn), E.K = K ∧ E.ct = ct ∧ E.H = H ∧ Wd E σ s ce ∧ RA W Rel m σ E s ce Q
end VI
namespace VI
open PySem L2
inductive Pr where
  | add | sub | mul | mod | fdiv | pow | neg
  | eq | ne | lt | le | gt | ge | isN | notN | isB | notB
  | mem | nmem | memd | nmemd
  | ix | ixd
  | len | lend | list | tuple | int1 | abs | max2 | min2 | sum | all | any
  | isi (T : String)
  | get2 | lrng | str1
  | ixN | memN | nmemN | lenN
  | dctD | dctP
  | lstd | rvs | iadd | eqd | ned | cnt | idx | lstN | srtS | srtI
  | idxT | maxL | vals
  | sumV | zipL | itmL | shl | shr | band | bor | lset | lstS
  | rv1 | minL | srtD
  
  | isx (all yes : List Str)
  deriving DecidableEq
inductive Mp where
  | app | popl | popa | rev | clr | ext | setl | setd | insr | setN | rem
  deriving DecidableEq
inductive Sk where
  | val | tupS | strS | rng1 | rng2 | enum | zip | keys | rng3 | items | revS
  deriving DecidableEq
inductive Ex where
  | var (i : Nat) | frv (i : Nat) | mov (i : Nat)
  | con (d : D) | glo (x : Str)
  | fld (C : Str) (q : Ex) (f : Str)
  
  | fxq (al : List Str) (q : Ex) (f : Str)
  | pr (p : Pr) (as : List Ex)
  | lst (as : List Ex) | tup (as : List Ex) | dic0
  | not (a : Ex) | and (a b : Ex) | or (a b : Ex) | ife (c a b : Ex)
  | tru (q : Ex)
  | call (f : Nat) (as : List Ex)
  | meth (C m : Str) (f : Nat) (q : Ex) (as : List Ex)
  | mk (C : Str) (f : Nat) (fz : Bool) (as : List Ex)
  | io (i : Nat)
  | mt (m : Mp) (tg : Ex) (as : List Ex)
  | slc (a : Ex) (lo hi : List Ex)
  | joi (z : Str) (a : Ex)
  | dgt (a k x : Ex)
  | lc (tg : List Nat) (sk : Sk) (src : List Ex) (cond : List Ex) (e : Ex)
  | dc (tg : List Nat) (sk : Sk) (src : List Ex) (k e : Ex)
  | chn (p q : Pr) (a b c : Ex)
  | dicN0
  
  | mtF (m : Mp) (C : Str) (i : Nat) (f : Str) (as : List Ex)
  
  | cin (C : Str) (f : Nat) (a q : Ex)
  
  | mkO (C : Str) (f : Nat) (as : List Ex) (e : Ex)
  
  | cpy (p : Pr) (as : List Ex)
  
  | callT (f : Nat) (a : Ex)
  
  | callS (f : Nat) (as : List Ex)
  
  | tupM (i : Nat) (as : List Ex)
  
  | calL (f : Nat) (as : List Ex)
  
  | methv (C m : Str) (f : Nat) (o : Ex) (as : List Ex)
  
  | orv (a b : Ex)
  
  | fop (C : Str) (o : Ex) (f : Str) (p : Pr) (as : List Ex)
  
  | lcB (tg : List Nat) (i : Nat) (cond : List Ex) (e : Ex)
  
  | dic1 (k e : Ex) | dicN1 (k e : Ex)
  
  | fzf (C : Str) (o : Ex) (f : Str)
  
  | mtI (m : Mp) (i j : Nat) (as : List Ex)
  
  | apX (al : List Str) (i : Nat) (f : Str) (a : Ex)
  
  | mkr (C f : Str) (q : Ex)
  
  | mkx (C : Str) (fn : List Str) (ring : Bool) (as : List Ex)
abbrev lim : Nat := 1000000
def keyOf : D → Option Key
  | .int i => some (.inl i)
  | .str s => some (.inr s)
  | _ => none
def keyD : Key → D
  | .inl i => .int i
  | .inr s => .str s
def look {α β : Type} [DecidableEq α] : List α → List β → α → Option β
  | k :: ks, d :: ds, x => if k = x then some d else look ks ds x
  | _, _, _ => none
mutual
def toPy : D → Option PyData
  | .non => some .none
  | .bl b => some (.bool b)
  | .int i => some (.int i)
  | .str s => some (.str s)
  | .lst _ ds => (toPys ds).map .list
  | .tup ds => (toPys ds).map .tuple
  | _ => none
def toPys : List D → Option (List PyData)
  | [] => some []
  | d :: ds => match toPy d, toPys ds with
    | some x, some xs => some (x :: xs)
    | _, _ => none
end
def eqD (a b : D) : Option Bool := match toPy a, toPy b with
  | some x, some y => if SeqAt.shaped x && SeqAt.shaped y then some (PyData.eqv x y) else none
  | _, _ => none
def memD (a : D) (ds : List D) : Option Bool := match toPy a, toPys ds with
  | some x, some ys => if SeqAt.shaped x && SeqAt.shaped (.list ys) then some (ys.any fun z => PyData.eqv z x) else none
  | _, _ => none
def flatD : D → Bool
  | .non => true | .bl _ => true | .int _ => true | .str _ => true
  | _ => false
def eqF : D → D → Bool
  | .non, .non => true
  | .bl a, .bl b => a == b
  | .bl a, .int b => (if a then 1 else 0) == b
  | .int a, .bl b => a == (if b then 1 else 0)
  | .int a, .int b => a == b
  | .str a, .str b => a == b
  | _, _ => false
def memT (a : D) (ds : List D) : Option Bool := match toPy a, toPys ds with
  | some x, some ys => if SeqAt.shaped x && SeqAt.shaped (.tuple ys) then some (ys.any fun z => PyData.eqv z x) else none
  | _, _ => none
def tsD : List D → Option (List Str)
  | [] => some []
  | .str i :: ds => (tsD ds).map (i :: ·)
  | _ => none
def cntD : D → D → Option D
  | .lst _ ds, b => match toPys ds, toPy b with
    | some ys, some x => if SeqAt.shaped x && SeqAt.shaped (.list ys) then some (.int ((ys.countP fun z => PyData.eqv z x : Nat) : Int)) else none
    | _, _ => none
  | _, _ => none
def idxD : D → D → Option D
  | .lst _ ds, b => match toPys ds, toPy b with
    | some ys, some x => if SeqAt.shaped x && SeqAt.shaped (.list ys) then (ys.findIdx? fun z => PyData.eqv z x).map fun j => .int (j : Int) else none
    | _, _ => none
  | _, _ => none
def idxTD : D → D → Option D
  | .tup ds, .str z => (tsD ds).bind fun ys => (ys.findIdx? fun w => decide (w = z)).map fun j => .int (j : Int)
  | _, _ => none
def memO (a b : D) : Option Bool := match a, b with
  | a, .lst _ ds => memD a ds
  | a, .tup ds => if flatD a && ds.all flatD then some (ds.any fun y => eqF y a) else memT a ds
  | .str x, .str z => if x.cps.size = 1 then some (decide (x.cps.getD 0 0 ∈ z.cps.toList)) else none
  | _, _ => none
def memdD (a b : D) : Option Bool := match b with
  | .dic _ ks ds => (keyOf a).map fun k => (look ks ds k).isSome
  | _ => none
def kindD : D → Option String
  | .non => some "NoneType"
  | .bl _ => some "bool"
  | .int _ => some "int"
  | .str _ => some "str"
  | .lst _ _ => some "list"
  | .tup _ => some "tuple"
  | .dic true _ _ => some "dict"
  | _ => none
def isiD (T : String) (d : D) : Option Bool := (kindD d).bind fun k => kitB k T
def intsD : List D → Option (List Int)
  | [] => some []
  | .int i :: ds => (intsD ds).map (i :: ·)
  | _ => none
def boolsD : List D → Option (List Bool)
  | [] => some []
  | .bl i :: ds => (boolsD ds).map (i :: ·)
  | _ => none
def strsD : List D → Option (List Str)
  | [] => some []
  | .str i :: ds => (strsD ds).map (i :: ·)
  | _ => none
def okA (d : D) : Option D := if allF d then some d else none
def cutD (ds : List D) (lo hi : Option Int) : List D := (ds.drop (HT.sIx ds.length 0 lo)).take (HT.sIx ds.length ds.length hi - HT.sIx ds.length 0 lo)
def addD : D → D → Option D
  | .int i, .int j => some (.int (i + j))
  | .int i, .bl k => some (.int (i + (if k then 1 else 0)))
  | .str x, .str y => if x.length + y.length ≤ lim then some (.str (x ++ y)) else none
  | .lst _ xs, .lst _ ys => if allFs xs && allFs ys && decide (xs.length + ys.length ≤ lim) then some (.lst true (xs ++ ys)) else none
  | _, _ => none
def mulD : D → D → Option D
  | .str z, .int n => if z.length ≤ 4000 ∧ -(2 ^ 63) ≤ n ∧ n ≤ 4000 then some (.str (Txt.mul z n)) else none
  | .int i, .int j => if i.natAbs.log2 + j.natAbs.log2 < 1000000 then some (.int (i * j)) else none
  | .lst _ xs, .int k => if allFs xs && decide (-(2 ^ 63) ≤ k ∧ k < 2 ^ 63 ∧ xs.length * k.toNat ≤ lim) then some (.lst true (List.replicate k.toNat xs).flatten) else none
  | _, _ => none
def ixD : D → D → Option D
  | .lst _ ds, .int i => (atI ds i).bind okA
  | .tup ds, .int i => (atI ds i).bind okA
  | .scr ns, .int i => (atI ns i).map .int
  | .str z, .int i => if z.length ≤ lim then (atI z.cps.toList i).map fun c => .str ⟨#[c]⟩ else none
  | _, _ => none
def ixdD : D → D → Option D
  | .dic _ ks ds, k => (keyOf k).bind fun k => (look ks ds k).bind okA
  | _, _ => none
def slD (x : D) (lo hi : Option Int) : Option D := match x with
  | .lst _ ds => if allFs ds then some (.lst true (cutD ds lo hi)) else none
  | .str z => if z.length ≤ lim then some (.str (cutS z lo hi)) else none
  | _ => none
def lenD : D → Option Int
  | .lst _ ds => some ds.length
  | .tup ds => some ds.length
  | .scr ns => some ns.length
  | .str z => if z.length ≤ lim then some z.length else none
  | _ => none
def lendD : D → Option Int
  | .dic _ ks _ => some ks.length
  | _ => none
def cmpD (f : Int → Int → Bool) : D → D → Option D
  | .int i, .int j => some (.bl (f i j))
  | _, _ => none
def joinD : D → D → Option D
  | .str a, .lst _ ds => (strsD ds).bind fun ys => if (ys.map (·.length)).sum + ys.length * a.length ≤ lim then some (.str (Txt.join a ys)) else none
  | _, _ => none
def isNon : D → Bool
  | .non => true
  | _ => false
def subD : D → D → Option D
  | .int i, .int j => some (.int (i - j))
  | _, _ => none
def modD : D → D → Option D
  | .int i, .int j => if 0 < j then some (.int (i % j)) else none
  | _, _ => none
def fdivD : D → D → Option D
  | .int i, .int j => if 0 < j ∧ j.natAbs.log2 < 9000 then some (.int (i / j)) else none
  | _, _ => none
def powD : D → D → Option D
  | .int i, .int j => if 0 ≤ j ∧ j ≤ 1000000 ∧ i.natAbs < 2 ^ 64 then some (.int (i ^ j.toNat)) else none
  | _, _ => none
def negD : D → Option D
  | .int i => some (.int (-i))
  | _ => none
def isBD : D → D → Option D
  | .bl a, .bl b => some (.bl (decide (a = b)))
  | _, _ => none
def notBD : D → D → Option D
  | .bl a, .bl b => some (.bl (!decide (a = b)))
  | _, _ => none
def listD : D → Option D
  | .lst _ ds => if allFs ds then some (.lst true ds) else none
  | .tup ds => if allFs ds then some (.lst true ds) else none
  | _ => none
def isIntD : D → Bool
  | .int _ => true
  | _ => false
def sameAt (ks : List Key) (ds : List D) (ks' : List Key) (ds' : List D) (k : Key) : Bool := match look ks ds k, look ks' ds' k with
  | some (.int i), some (.int j) => i == j
  | _, _ => false
def eqdD : D → D → Option Bool
  | .dic _ ks ds, .dic _ ks' ds' => if ks.Nodup ∧ ds.all isIntD = true ∧ ds'.all isIntD = true then some (ks.length == ks'.length && ks.all fun k => sameAt ks ds ks' ds' k) else none
  | _, _ => none
def iaddD : D → D → Option D
  | .int i, .int j => some (.int (i + j))
  | _, _ => none
def rvsD : D → Option D
  | .lst _ ds => if allFs ds then some (.lst true ds.reverse) else none
  | _ => none
def rv1D : D → Option D
  | .lst _ ds => if allFs ds then some (.lst true ds.tail.reverse) else none
  | _ => none
mutual

def unPy : PyData → D
  | .none => .non | .bool b => .bl b | .int i => .int i | .str s => .str s
  | .list xs => .lst false (unPys xs) | .tuple xs => .tup (unPys xs) | .dict _ => .non
def unPys : List PyData → List D
  | [] => []
  | x :: xs => unPy x :: unPys xs
end
def alkB (xs : List PyData) : Bool := xs.all fun x => (xs.all fun y => PySem.W.alike x y) && match x with
  | .none => false
  | _ => true
def minLD : D → Option D
  | .lst _ ds => match toPys ds with
    | some (x :: xs) => if allFs ds && alkB (x :: xs) && decide (PyData.depthAll (x :: xs) ≤ 30) then some (unPy (PySem.W.minD x xs)) else none
    | _ => none
  | _ => none
def pyD (d : D) : PyData := (toPy d).getD .none
def tupB : PyData → Bool
  | .tuple (_ :: _) => true
  | _ => false
def srtDD : D → Option D
  | .lst _ ds => if allFs ds && (toPys ds).isSome && alkB (ds.map pyD) && (ds.map pyD).all tupB && decide (PyData.depthAll (ds.map pyD) ≤ 30) && decide (ds.length ≤ lim) then some (.lst true (ds.mergeSort (PySem.W.dataLe false pyD))) else none
  | _ => none
def lstdD : D → Option D
  | .dic _ ks _ => some (.lst true (ks.map keyD))
  | _ => none
def truD : D → Option Bool
  | .non => some false
  | .bl b => some b
  | .int i => some (i != 0)
  | .lst _ ds => some (!ds.isEmpty)
  | .tup ds => some (!ds.isEmpty)
  | .dic true ks _ => some (!ks.isEmpty)
  | _ => none
def tupleD : D → Option D
  | .lst _ ds => if allFs ds then some (.tup ds) else none
  | _ => none
def int1D : D → Option D
  | .int i => some (.int i)
  | .bl k => some (.int (if k then 1 else 0))
  | _ => none
def absD : D → Option D
  | .int i => some (.int (if i < 0 then -i else i))
  | _ => none
def max2D : D → D → Option D
  | .int i, .int j => some (.int (if j > i then j else i))
  | _, _ => none
def min2D : D → D → Option D
  | .int i, .int j => some (.int (if j < i then j else i))
  | _, _ => none
def sumD : D → Option D
  | .lst _ ds => (intsD ds).map fun ns => .int ns.sum
  | _ => none
def maxLD : D → Option D
  | .lst _ ds => match intsD ds with
    | some (n :: ns) => some (.int (ns.foldl (fun a b => if b > a then b else a) n))
    | _ => none
  | _ => none
def valsD : D → Option D
  | .dic _ _ ds => if allFs ds then some (.lst true ds) else none
  | _ => none
def sumVD : D → Option D
  | .dic _ _ ds => (intsD ds).map fun ns => .int ns.sum
  | _ => none
def zipLD : D → D → Option D
  | .tup xs, .tup ys => if (allFs xs && allFs ys) && decide (xs.length = ys.length) then some (.lst true (xs.zipWith (fun x y => .tup [x, y]) ys)) else none
  | _, _ => none
def itmLD : D → Option D
  | .dic _ ks ds => if allFs ds then some (.lst true (List.zipWith (fun k d => .tup [keyD k, d]) ks ds)) else none
  | _ => none
def shlD : D → D → Option D
  | .int i, .int j => if 0 ≤ j ∧ j ≤ 1000 ∧ i.natAbs < 2 ^ 64 then some (.int (i * 2 ^ j.toNat)) else none
  | _, _ => none
def shrD : D → D → Option D
  | .int i, .int j => if 0 ≤ j then some (.int (i / 2 ^ j.toNat)) else none
  | _, _ => none
def bandD : D → D → Option D
  | .int i, .int j => some (.int (PySem.Builtin.bitAnd i j))
  | _, _ => none
def borD : D → D → Option D
  | .int i, .int j => some (.int (PySem.Builtin.bitOr i j))
  | _, _ => none
def addM {α : Type} [DecidableEq α] (m : List α) (x : α) : List α := if x ∈ m then m else m ++ [x]
def lsetD : D → Option D
  | .lst _ ds => if ds.length ≤ 2000 then (tsD ds).map fun ys => .int ((ys.foldl addM []).length : Int) else none
  | _ => none
def sgs (x : Str) : List Str := (List.range x.cps.size).map fun i => ⟨#[x.cps.getD i 0]⟩
def lstSD : D → Option D
  | .str x => if x.cps.size ≤ lim then some (.lst true ((sgs x).map .str)) else none
  | _ => none
def allD : D → Option D
  | .lst _ ds => (boolsD ds).map fun bs => .bl (bs.all id)
  | _ => none
def anyD : D → Option D
  | .lst _ ds => (boolsD ds).map fun bs => .bl (bs.any id)
  | _ => none
def get2D : D → D → D → Option D
  | .dic _ ks ds, k, x => (keyOf k).bind fun k => match look ks ds k with
    | some d => okA d
    | none => okA x
  | _, _, _ => none
def lrngD : D → Option D
  | .int n => if -1000000 ≤ n ∧ n ≤ lim then some (.lst true ((List.range n.toNat).map fun i : Nat => .int (i : Int))) else none
  | _ => none
mutual

def keyN : D → Option VN.NK
  | .non => some .none
  | .int i => some (.num i)
  | .str s => some (.text s)
  | .tup ds => (keyNs ds).map .tup
  | _ => none
def keyNs : List D → Option (List VN.NK)
  | [] => some []
  | d :: ds => match keyN d, keyNs ds with
    | some k, some ks => some (k :: ks)
    | _, _ => none
end
def keyT : D → Option VN.NK
  | .tup ds => (keyNs ds).bind fun ks => if (NestedKey.tup ks).depth ≤ 8 then some (.tup ks) else none
  | _ => none
def ixND : D → D → Option D
  | .dicN _ ks ds, k => (keyT k).bind fun k => (look ks ds k).bind okA
  | _, _ => none
def memND (a b : D) : Option Bool := match b with
  | .dicN _ ks ds => (keyT a).map fun k => (look ks ds k).isSome
  | _ => none
def lenND : D → Option Int
  | .dicN _ ks _ => some ks.length
  | _ => none
mutual

def nkD : VN.NK → D
  | .none => .non
  | .num i => .int i
  | .text s => .str s
  | .tup ks => .tup (nkDs ks)
def nkDs : List VN.NK → List D
  | [] => []
  | k :: ks => nkD k :: nkDs ks
end
def lstnD : D → Option D
  | .dicN _ ks _ => some (.lst true (ks.map nkD))
  | _ => none
def leS (a b : Str) : Bool := !PySem.Spec.ltCps b.cps.toList a.cps.toList
def srtSD : D → Option D
  | .lst _ ds => (tsD ds).bind fun ys => if ys.length < 64 then some (.lst true ((ys.mergeSort leS).map .str)) else none
  | _ => none
def srtID : D → Option D
  | .lst _ ds => (intsD ds).bind fun ys => if ys.length < 64 then some (.lst true ((ys.mergeSort fun a b => decide (a ≤ b)).map .int)) else none
  | _ => none
def strD : D → Option D
  | .int i => if i.natAbs.log2 < 1920 then some (.str (toString i)) else none
  | _ => none
def putAt {α : Type} [DecidableEq α] : List α → List D → α → D → List D
  | k :: ks, d :: ds, x, v => (if k = x then v else d) :: putAt ks ds x v
  | _, _, _, _ => []
def dicSet (ks : List Key) (ds : List D) (k : Key) (d : D) : List Key × List D := if (look ks ds k).isSome then (ks, putAt ks ds k d) else (ks ++ [k], ds ++ [d])
def dictDD : D → Option D
  | .dic _ ks ds => if allFs ds then some (.dic true ks ds) else none
  | _ => none
def dctGo : List D → List Key × List D → Option (List Key × List D)
  | [], acc => some acc
  | .tup [k, d] :: ps, acc => match keyOf k with
    | some k => dctGo ps (dicSet acc.1 acc.2 k d)
    | none => none
  | _, _ => none
def dictPD : D → Option D
  | .lst _ ps => if allFs ps then (dctGo ps ([], [])).map fun r => .dic true r.1 r.2 else none
  | _ => none
def isxD (al yes : List Str) : D → Option D
  | .exc C _ _ => if C ∈ al then some (.bl (decide (C ∈ yes))) else none
  | _ => none
def fxD (al : List Str) (f : Str) : D → Option D
  | .exc C fn ds => if C ∈ al then look fn ds f else none
  | _ => none
def mkXD (fn : List Str) (ring : Bool) (ds : List D) : Option (List D) :=
  if ring then match ds with
    | [.lst _ xs] => if fn.length = 1 && allFs xs then some [.lst true xs] else none
    | [.tup xs] => if fn.length = 1 && allFs xs then some [.lst true xs] else none
    | _ => none
  else if ds.length = fn.length ∧ fn.length ≤ 2 then some ds else none
def fn1 (f : D → Option D) : List D → Option D
  | [a] => f a
  | _ => none
def fn2 (f : D → D → Option D) : List D → Option D
  | [a, b] => f a b
  | _ => none
def fn3 (f : D → D → D → Option D) : List D → Option D
  | [a, b, c] => f a b c
  | _ => none
def Pr.fn : Pr → List D → Option D
  | .add => fn2 addD | .sub => fn2 subD | .mul => fn2 mulD | .mod => fn2 modD | .fdiv => fn2 fdivD | .pow => fn2 powD | .neg => fn1 negD
  | .eq => fn2 fun a b => (eqD a b).map .bl
  | .ne => fn2 fun a b => (eqD a b).map fun k => .bl (!k)
  | .lt => fn2 (cmpD fun i j => decide (i < j)) | .le => fn2 (cmpD fun i j => decide (i ≤ j)) | .gt => fn2 (cmpD fun i j => decide (j < i)) | .ge => fn2 (cmpD fun i j => decide (j ≤ i))
  | .isN => fn1 fun a => some (.bl (isNon a)) | .notN => fn1 fun a => some (.bl (!isNon a))
  | .isB => fn2 isBD | .notB => fn2 notBD
  | .mem => fn2 fun a b => (memO a b).map .bl
  | .nmem => fn2 fun a b => (memO a b).map fun k => .bl (!k)
  | .memd => fn2 fun a b => (memdD a b).map .bl
  | .nmemd => fn2 fun a b => (memdD a b).map fun k => .bl (!k)
  | .ixN => fn2 ixND | .lenN => fn1 fun a => (lenND a).map .int
  | .memN => fn2 fun a b => (memND a b).map .bl
  | .nmemN => fn2 fun a b => (memND a b).map fun k => .bl (!k)
  | .ixd => fn2 ixdD | .lend => fn1 fun a => (lendD a).map .int
  | .ix => fn2 ixD
  | .len => fn1 fun a => (lenD a).map .int
  | .list => fn1 listD | .tuple => fn1 tupleD | .int1 => fn1 int1D | .abs => fn1 absD | .max2 => fn2 max2D | .min2 => fn2 min2D
  | .sum => fn1 sumD | .all => fn1 allD | .any => fn1 anyD
  | .isi T => fn1 fun a => (isiD T a).map .bl
  | .get2 => fn3 get2D | .lrng => fn1 lrngD | .str1 => fn1 strD
  | .dctD => fn1 dictDD | .dctP => fn1 dictPD
  | .lstd => fn1 lstdD | .rvs => fn1 rvsD | .iadd => fn2 iaddD
  | .eqd => fn2 fun a b => (eqdD a b).map .bl
  | .ned => fn2 fun a b => (eqdD a b).map fun k => .bl (!k)
  | .cnt => fn2 cntD | .idx => fn2 idxD | .lstN => fn1 lstnD | .srtS => fn1 srtSD | .srtI => fn1 srtID
  | .idxT => fn2 idxTD | .maxL => fn1 maxLD | .vals => fn1 valsD
  | .sumV => fn1 sumVD | .zipL => fn2 zipLD | .itmL => fn1 itmLD | .shl => fn2 shlD | .shr => fn2 shrD | .band => fn2 bandD | .bor => fn2 borD | .lset => fn1 lsetD | .lstS => fn1 lstSD
  | .rv1 => fn1 rv1D | .minL => fn1 minLD | .srtD => fn1 srtDD
  | .isx al yes => fn1 (isxD al yes)
theorem fn1_some {f : D → Option D} {ds : List D} {d : D} (h : fn1 f ds = some d) : ∃ a, ds = [a] ∧ f a = some d := by
  match ds, h with
  | [a], h => exact ⟨a, rfl, h⟩
def Pr.quiet : Pr → Bool
  | .add => false | .mul => false | .list => false | .tuple => false | .lrng => false | .dctD => false | .dctP => false | .lstd => false | .rvs => false | .lstN => false | .srtS => false | .srtI => false | .vals => false | .zipL => false | .itmL => false | .lstS => false | .rv1 => false | .srtD => false
  | _ => true
def Mp.fn : Mp → D → List D → Option (D × D)
  | .app, .lst true ds, [d] => if ds.length < lim then some (.lst true (ds ++ [d]), .non) else none
  | .ext, .lst true ds, [.lst _ es] => if ds.length + es.length ≤ lim ∧ allFs es = true then some (.lst true (ds ++ es), .non) else none
  | .ext, .lst true ds, [.tup es] => if ds.length + es.length ≤ lim ∧ allFs es = true then some (.lst true (ds ++ es), .non) else none
  | .popl, .lst true ds, [] => (ds[ds.length - 1]?).bind fun d => (okA d).map fun d => (.lst true ds.dropLast, d)
  | .popa, .lst true ds, [.int i] => if -(2 ^ 63) ≤ i ∧ i < 2 ^ 63 then (ixN ds.length i).bind fun k => (ds[k]?).bind fun d => (okA d).map fun d => (.lst true (ds.eraseIdx k), d) else none
  | .rev, .lst true ds, [] => some (.lst true ds.reverse, .non)
  | .clr, .lst true _, [] => some (.lst true [], .non)
  | .rem, .lst true ds, [.str z] => (tsD ds).bind fun ys => (ys.findIdx? fun y => decide (y = z)).map fun j => (.lst true (ds.eraseIdx j), .non)
  | .insr, .lst true ds, [.int i, d] => if ds.length < lim ∧ 0 ≤ i ∧ i < 2 ^ 63 then some (.lst true (ds.take i.toNat ++ [d] ++ ds.drop i.toNat), .non) else none
  | .setl, .lst true ds, [d, .int k] => (ixN ds.length k).map fun j => (.lst true (ds.set j d), .non)
  | .setd, .dic true ks ds, [d, k] => (keyOf k).bind fun k => if ks.length < lim then
      some (if (look ks ds k).isSome then (.dic true ks (putAt ks ds k d), .non) else (.dic true (ks ++ [k]) (ds ++ [d]), .non)) else none
  | .setN, .dicN true ks ds, [d, k] => (keyT k).bind fun k => if ks.length < lim then
      some (if (look ks ds k).isSome then (.dicN true ks (putAt ks ds k d), .non) else (.dicN true (ks ++ [k]) (ds ++ [d]), .non)) else none
  | _, _, _ => none
def Mp.kind : Mp → D → Bool
  | .setd, .dic _ _ _ => true
  | .setd, _ => false
  | .setN, .dicN _ _ _ => true
  | .setN, _ => false
  | _, .lst _ _ => true
  | _, _ => false
inductive CR where
  | ok (d : D) (ps : List (Option D)) (μ : List RO)
  | ex (x : EXC) (ps : List (Option D)) (μ : List RO)
structure Tab where
  glo : Str → Option D
  call : Nat → List D → List RO → Option CR
  fuel : Nat
mutual
def isQ : Ex → Bool
  | .var _ => true | .con _ => true | .glo _ => true
  | .fld _ q _ => isQ q
  | .fxq _ q _ => isQ q
  | .pr p as => p.quiet && isQs as
  | _ => false
def isQs : List Ex → Bool
  | [] => true
  | a :: as => isQ a && isQs as
end
mutual
def evq (T : Tab) (s : VS) : Ex → Option D
  | .var i => match s.ρ[i]? with
    | some (some d) => some d
    | _ => none
  | .con d => some d
  | .glo x => T.glo x
  | .fxq al q f => (evq T s q).bind (fxD al f)
  | .fld C q f => match evq T s q with
    | some (.ref k) => (s.μ[k]?).bind fun r => if r.cls = C then look r.fn r.ds f else none
    | some (.ins C' fn ds) => if C' = C then look fn ds f else none
    | _ => none
  | .pr p as => (evqs T s as).bind p.fn
  | _ => none
def evqs (T : Tab) (s : VS) : List Ex → Option (List D)
  | [] => some []
  | a :: as => match evq T s a, evqs T s as with
    | some d, some ds => some (d :: ds)
    | _, _ => none
end
inductive AV where
  | val (d : D) | sl (i : Nat)
def AV.get (s : VS) : AV → Option D
  | .val d => some d
  | .sl i => match s.ρ[i]? with
    | some (some d) => some d
    | _ => none
def AV.gets (s : VS) : List AV → Option (List D)
  | [] => some []
  | a :: as => match a.get s, AV.gets s as with
    | some d, some ds => some (d :: ds)
    | _, _ => none
def M.fail {α : Type} : M α := fun _ => none
def M.opt {α : Type} (o : Option α) : M α := fun s => o.map fun a => .ok a s
def M.get : M VS := fun s => some (.ok s s)
def srcD (sk : Sk) (ds : List D) : Option (List D) := match sk, ds with
  | .val, [.lst false ds] => some ds
  | .val, [.scr ns] => some (ns.map .int)
  | .tupS, [.tup ds] => if allFs ds then some ds else none
  | .strS, [.str z] => some (z.cps.toList.map fun c => .str ⟨#[c]⟩)
  | .rng1, [.int n] => if -1000000 ≤ n ∧ n ≤ lim then some ((List.range n.toNat).map fun i : Nat => .int (i : Int)) else none
  | .rng2, [.int a, .int b] => if (-1000000 ≤ a ∧ a ≤ lim) ∧ -1000000 ≤ b ∧ b ≤ lim then some ((List.range (b - a).toNat).map fun i : Nat => .int (a + (i : Int))) else none
  | .keys, [.dic false ks _] => some (ks.map keyD)
  | .items, [.dic false ks ds] => some (List.zipWith (fun k d => .tup [keyD k, d]) ks ds)
  | .rng3, [.int a, .int b] => if (-1000000 ≤ a ∧ a ≤ lim) ∧ -1000000 ≤ b ∧ b ≤ lim then some ((List.range (a - b).toNat).map fun i : Nat => .int (a - (i : Int))) else none
  | .revS, [.lst false ds] => some ds.reverse
  | .enum, [.lst false ds] => some ((List.range ds.length).zipWith (fun (i : Nat) d => .tup [.int (i : Int), d]) ds)
  | .zip, [.lst false xs, .lst false ys] => some (xs.zipWith (fun x y => .tup [x, y]) ys)
  | _, _ => none
def bindT (tg : List Nat) (d : D) (ρ : List (Option D)) : Option (List (Option D)) := match tg with
  | [i] => some (ρ.set i (some d))
  | [i, j] => match d with
    | .tup [x, y] => some ((ρ.set i (some x)).set j (some y))
    | _ => none
  | [i, j, k] => match d with
    | .tup [x, y, z] => some (((ρ.set i (some x)).set j (some y)).set k (some z))
    | _ => none
  | [i, j, k, _] => match d with
    | .lst _ [x, y, z] => some (((ρ.set i (some x)).set j (some y)).set k (some z))
    | _ => none
  | _ => none
def wipeR (ρ : List (Option D)) : List Nat → List (Option D)
  | [] => ρ
  | v :: vs => (wipeR ρ vs).set v none
def loopC (f : D → M (Option D)) : List D → List D → M (List D)
  | [], acc => M.ret acc
  | x :: xs, acc => (f x).bnd fun r => match r with
    | some d => if acc.length < lim then loopC f xs (acc ++ [d]) else M.fail
    | none => loopC f xs acc
def lcBody (tg : List Nat) (mc : M Bool) (me : M D) : D → M (Option D) := fun d s => match bindT tg d (wipeR s.ρ tg) with
  | some ρ => (mc.bnd fun b => if b then me.bnd fun d => M.ret (some (frz d)) else M.ret none) ⟨ρ, s.μ⟩
  | none => none
mutual

def eqDD : D → D → Bool
  | .non, .non => true
  | .bl a, .bl b => a == b
  | .int a, .int b => a == b
  | .str a, .str b => decide (a = b)
  | .lst o xs, .lst o' ys => o == o' && eqDDs xs ys
  | .tup xs, .tup ys => eqDDs xs ys
  | .dic o ks xs, .dic o' ks' ys => o == o' && decide (ks = ks') && eqDDs xs ys
  | .ins C fn xs, .ins C' fn' ys => decide (C = C') && decide (fn = fn') && eqDDs xs ys
  | .dicN o ks xs, .dicN o' ks' ys => o == o' && decide (ks = ks') && eqDDs xs ys
  | .ref k, .ref k' => k == k'
  | .scr a, .scr b => decide (a = b)
  | .exc C fn xs, .exc C' fn' ys => decide (C = C') && decide (fn = fn') && eqDDs xs ys
  | _, _ => false
def eqDDs : List D → List D → Bool
  | [], [] => true
  | x :: xs, y :: ys => eqDD x y && eqDDs xs ys
  | _, _ => false
end
def hasB (i : Nat) (d0 : D) (s : VS) : Bool := match s.ρ[i]? with
  | some (some d) => eqDD d d0
  | _ => false
def chkB (i : Nat) (d0 : D) (f : D → M (Option D)) : D → M (Option D) := fun d s => if hasB i d0 s then f d s else none
def endB (i : Nat) (d0 : D) : Option (Res (List D)) → Option (Res (List D))
  | some (.ok ds s') => if hasB i d0 s' then some (.ok ds s') else none
  | _ => none
def lcEnd (tg : List Nat) : Option (Res (List D)) → Option (Res D)
  | some (.ok ds s') => some (.ok (.lst true ds) ⟨wipeR s'.ρ tg, s'.μ⟩)
  | _ => none
def lcM (tg : List Nat) (mc : M Bool) (me : M D) (items : List D) : M D := fun s => lcEnd tg (loopC (lcBody tg mc me) items [] ⟨wipeR s.ρ tg, s.μ⟩)
def lcMB (i : Nat) (d0 : D) (tg : List Nat) (mc : M Bool) (me : M D) (items : List D) : M D := fun s => lcEnd tg (endB i d0 (loopC (chkB i d0 (lcBody tg mc me)) items [] ⟨wipeR s.ρ tg, s.μ⟩))
def dcBody (tg : List Nat) (mk me : M D) : D → M (Key × D) := fun d s => match bindT tg d (wipeR s.ρ tg) with
  | some ρ => (mk.bnd fun k => match keyOf (frz k) with
    | some k => me.bnd fun d => M.ret (k, frz d)
    | none => M.fail) ⟨ρ, s.μ⟩
  | none => none
def loopK (f : D → M (Key × D)) : List D → List Key × List D → M (List Key × List D)
  | [], acc => M.ret acc
  | x :: xs, acc => (f x).bnd fun kd => if acc.1.length < lim then loopK f xs (dicSet acc.1 acc.2 kd.1 kd.2) else M.fail
def dcEnd (tg : List Nat) : Option (Res (List Key × List D)) → Option (Res D)
  | some (.ok ds s') => some (.ok (.dic true ds.1 ds.2) ⟨wipeR s'.ρ tg, s'.μ⟩)
  | _ => none
def dcM (tg : List Nat) (mk me : M D) (items : List D) : M D := fun s => dcEnd tg (loopK (dcBody tg mk me) items ([], []) ⟨wipeR s.ρ tg, s.μ⟩)
def putFd : List Str → List D → Str → D → List Str × List D
  | g :: fn, x :: ds, f, d => if g = f then (g :: fn, d :: ds) else (g :: (putFd fn ds f d).1, x :: (putFd fn ds f d).2)
  | _, _, f, d => ([f], [d])
def fput (r : RO) (f : Str) (d : D) : RO := ⟨r.cls, (putFd r.fn r.ds f d).1, (putFd r.fn r.ds f d).2⟩
mutual
def noRef : D → Bool
  | .lst _ ds => noRefs ds
  | .tup ds => noRefs ds
  | .dic _ _ ds => noRefs ds
  | .ins _ _ ds => noRefs ds
  | .dicN _ _ ds => noRefs ds
  | .exc _ _ ds => noRefs ds
  | .ref _ => false
  | _ => true
def noRefs : List D → Bool
  | [] => true
  | d :: ds => noRef d && noRefs ds
end
def noRefO : List (Option D) → Bool
  | [] => true
  | none :: ps => noRefO ps
  | some d :: ps => noRef d && noRefO ps
def backs : List AV → List (Option D) → List (Option D) → Option (List (Option D))
  | [], _, ρ => some ρ
  | .val _ :: as, _ :: ps, ρ => backs as ps ρ
  | .sl i :: as, some d :: ps, ρ => match ρ[i]? with
    | some none => backs as ps (ρ.set i (some d))
    | _ => none
  | _, _, _ => none
def hands : List AV → List (Option D) → Option (List D × List (Option D))
  | [], ρ => some ([], ρ)
  | .val d :: as, ρ => (hands as ρ).map fun (ds, ρ) => (d :: ds, ρ)
  | .sl i :: as, ρ => match ρ[i]? with
    | some (some d) => (hands as (ρ.set i none)).map fun (ds, ρ) => (d :: ds, ρ)
    | _ => none
def callM (T : Tab) (f : Nat) (as : List AV) : M D := fun s => match hands as s.ρ with
  | some (ds, ρ) =>
    if noRefs ds then match T.call f ds [] with
      | some (.ok d ps []) => (backs as ps ρ).map fun ρ => .ok d ⟨ρ, s.μ⟩
      | some (.ex x ps []) => (backs as ps ρ).map fun ρ => .ex x ⟨ρ, s.μ⟩
      | some (.ok d ps _) => if noRef d && noRefO ps then (backs as ps ρ).map fun ρ => .ok d ⟨ρ, s.μ⟩ else none
      | some (.ex x ps _) => if noRefs x.ds && noRefO ps then (backs as ps ρ).map fun ρ => .ex x ⟨ρ, s.μ⟩ else none
      | none => none
    else match T.call f ds s.μ with
      | some (.ok d ps μ) => (backs as ps ρ).map fun ρ => .ok d ⟨ρ, μ⟩
      | some (.ex x ps μ) => (backs as ps ρ).map fun ρ => .ex x ⟨ρ, μ⟩
      | _ => none
  | none => none
mutual

def noFrz : D → Bool
  | .non => true | .bl _ => true | .int _ => true | .str _ => true
  | .lst true ds => noFrzs ds
  | .dic true _ ds => noFrzs ds
  | _ => false
def noFrzs : List D → Bool
  | [] => true
  | d :: ds => noFrz d && noFrzs ds
end
def lends (ρ : List (Option D)) : List AV → Option (List D)
  | [] => some []
  | .val d :: as => (lends ρ as).map (d :: ·)
  | .sl i :: as => match ρ[i]? with
    | some (some d) => (lends ρ as).map (frz d :: ·)
    | _ => none
def callT (T : Tab) (f : Nat) (d : D) : M D := fun s => if noRefs [d] then match T.call f [d] [] with
  | some (.ok r _ []) => some (.ok r s)
  | _ => none
  else none
def callS (T : Tab) (f : Nat) (as : List AV) : M D := fun s => match hands as s.ρ with
  | some (ds, ρ) => match T.call f ds s.μ with
      | some (.ok d ps μ) => (backs as ps ρ).map fun ρ => .ok d ⟨ρ, μ⟩
      | some (.ex x ps μ) => (backs as ps ρ).map fun ρ => .ex x ⟨ρ, μ⟩
      | _ => none
  | none => none
def frvM (i : Nat) : M D := fun s => match s.ρ[i]? with
  | some (some d) => some (.ok (frz d) ⟨s.ρ.set i (some (frz d)), s.μ⟩)
  | _ => none
def callL (T : Tab) (f : Nat) (as : List AV) : M D := fun s => match lends s.ρ as with
  | some ds => if noRefs ds then match T.call f ds [] with
      | some (.ok d _ _) => if noFrz d then some (.ok d s) else none
      | _ => none
    else none
  | none => none
def isObjD (C m : Str) (s : VS) : D → Bool
  | .ref k => match s.μ[k]? with
    | some r => decide (r.cls = C) && r.fn.all fun x => decide (x ≠ m)
    | none => false
  | .ins C' fn _ => decide (C' = C) && fn.all fun x => decide (x ≠ m)
  | _ => false
def mkSh (T : Tab) (C : Str) (f : Nat) (ds : List D) : M D := fun s => match T.call f (.ref s.μ.length :: ds) (s.μ ++ [⟨C, [], []⟩]) with
  | some (.ok .non _ μ) => some (.ok (.ref s.μ.length) ⟨s.ρ, μ⟩)
  | _ => none
def mkM (T : Tab) (C : Str) (f : Nat) (fz : Bool) (as : List AV) : M D := fun s => match hands as (s.ρ.map fun _ => none) with
  | some (ds, _) =>
    if fz then (if noRefs ds then match T.call f (.ref 0 :: ds) [⟨C, [], []⟩] with
      | some (.ok .non _ [r]) => if r.cls = C ∧ noRefs r.ds = true then some (.ok (.ins C r.fn (frzs r.ds)) s) else none
      | some (.ex x _ _) => if noRefs x.ds then some (.ex x s) else none
      | _ => none
      else none)
    else mkSh T C f ds s
  | none => none
def cinM (T : Tab) (C : Str) (f : Nat) (q : Ex) (x : D) : M D := fun s => match evq T s q with
  | some d => if isObjD C "__contains__" s d && allF d then ((callM T f [.val d, .val x]).bnd fun r => match r with
    | .bl b => M.ret (.bl b)
    | _ => M.fail) s else none
  | none => none
def fldO (C f : Str) (i : Nat) (s : VS) : Option D := match s.ρ[i]? with
  | some (some (.ref k)) => (s.μ[k]?).bind fun r => if r.cls = C then look r.fn r.ds f else none
  | _ => none
def fldSet (f : Str) (i : Nat) (d : D) (s : VS) : VS := match s.ρ[i]? with
  | some (some (.ref k)) => match s.μ[k]? with
    | some r => ⟨s.ρ, s.μ.set k (fput r f d)⟩
    | none => s
  | _ => s
def attrD (C f : Str) (s : VS) : D → Option D
  | .ref k => (s.μ[k]?).bind fun r => if r.cls = C then look r.fn r.ds f else none
  | .ins C' fn ds => if C' = C then look fn ds f else none
  | _ => none
def fzfM (C f : Str) (x : D) : M D := fun s => match x with
  | .ref k => match s.μ[k]? with
    | some r => if r.cls = C then match look r.fn r.ds f with
      | some d => some (.ok (frz d) ⟨s.ρ, s.μ.set k (fput r f (frz d))⟩)
      | none => none
      else none
    | none => none
  | _ => none
def slotM (i : Nat) : M AV := fun s => match s.ρ[i]? with
  | some (some _) => some (.ok (.sl i) s)
  | _ => none
mutual
def ev (T : Tab) : Ex → M D
  | .frv i => fun s => match s.ρ[i]? with
    | some (some d) => some (.ok (frz d) ⟨s.ρ.set i (some (frz d)), s.μ⟩)
    | _ => none
  | .mov i => fun s => match s.ρ[i]? with
    | some (some d) => some (.ok d ⟨s.ρ.set i none, s.μ⟩)
    | _ => none
  | .var i => fun s => match s.ρ[i]? with
    | some (some d) => if allF d then some (.ok d s) else none
    | _ => none
  | .con d => fun s => if allF d then some (.ok d s) else none
  | .glo x => fun s => match T.glo x with
    | some d => if allF d then some (.ok d s) else none
    | none => none
  | .fxq al q f => fun s => match evq T s (.fxq al q f) with
    | some d => if allF d then some (.ok d s) else none
    | none => none
  | .fld C q f => fun s => match evq T s (.fld C q f) with
    | some d => if allF d then some (.ok d s) else none
    | none => none
  | .pr p as => if p.quiet && isQs as then (fun s => match evq T s (.pr p as) with
      | some d => if allF d then some (.ok d s) else none
      | none => none)
    else (evA T as).bnd fun vs s => match AV.gets s vs with
      | some ds => (p.fn ds).map fun d => .ok d s
      | none => none
  | .lst as => (evs T as).bnd fun ds => if ds.length ≤ lim then M.ret (.lst true ds) else M.fail
  | .tup as => (evs T as).bnd fun ds => if ds.length ≤ lim then M.ret (.tup ds) else M.fail
  | .apX al i f a => fun s => match s.ρ[i]?, evq T s a with
    | some (some (.exc C [g] [.lst true xs])), some d => if (C ∈ al ∧ g = f) ∧ allF d = true ∧ xs.length < lim then some (.ok .non ⟨s.ρ.set i (some (.exc C [g] [.lst true (xs ++ [d])])), s.μ⟩) else none
    | _, _ => none
  | .mkr C f q => fun s => match evq T s q with
    | some (.lst _ xs) => if allFs xs then some (.ok (.exc C [f] [.lst true xs]) s) else none
    | _ => none
  | .mkx C fn ring as => (evs T as).bnd fun ds => match mkXD fn ring ds with
    | some xs => M.ret (.exc C fn.reverse xs.reverse)
    | none => M.fail
  | .dic0 => M.ret (.dic true [] [])
  | .dicN0 => M.ret (.dicN true [] [])
  | .dic1 k e => fun s => match ev T k s with
    | some (.ok k s1) => match keyOf (frz k), ev T e s1 with
      | some k, some (.ok d s2) => some (.ok (.dic true [k] [frz d]) s2)
      | _, _ => none
    | _ => none
  | .dicN1 k e => fun s => match ev T k s with
    | some (.ok k s1) => match keyT (frz k), ev T e s1 with
      | some k, some (.ok d s2) => some (.ok (.dicN true [k] [frz d]) s2)
      | _, _ => none
    | _ => none
  | .mtF m C i f as => fun s => match fldO C f i s, evqs T s as with
    | some o, some ds => if m.kind o && allFs ds then (m.fn o ds).map fun (o', d) => .ok d (fldSet f i o' s) else none
    | _, _ => none
  | .mtI m i j as => fun s => match s.ρ[i]? with
    | some (some (.tup ds)) => match ds[j]?, evqs T s as with
      | some o, some es => if m.kind o && allFs es then (m.fn o es).map fun (o', d) => .ok d ⟨s.ρ.set i (some (.tup (ds.set j o'))), s.μ⟩ else none
      | _, _ => none
    | _ => none
  | .tru q => fun s => match evq T s q with
    | some d => (truD d).map fun b => .ok (.bl b) s
    | none => none
  | .orv a b => ((ev T a).bnd fun d => M.ret (frz d)).bnd fun d => match truD d with
    | some true => M.ret d
    | some false => ev T b
    | none => M.fail
  | .fop C o f p as => if p.quiet then ((ev T o).bnd fun d => M.ret (frz d)).bnd fun x s => match attrD C f s x, evqs T s as with
      | some d, some ds => match p.fn (d :: ds) with
        | some r => if allF r then some (.ok r s) else none
        | none => none
      | _, _ => none
    else M.fail
  | .fzf C o f => ((ev T o).bnd fun d => M.ret (frz d)).bnd (fzfM C f)
  | .not a => (ev T a).bnd fun d => match d with
    | .bl b => M.ret (.bl (!b))
    | _ => M.fail
  | .and a b => (ev T a).bnd fun d => match d with
    | .bl true => ev T b
    | .bl false => M.ret (.bl false)
    | _ => M.fail
  | .or a b => (ev T a).bnd fun d => match d with
    | .bl true => M.ret (.bl true)
    | .bl false => ev T b
    | _ => M.fail
  | .ife c a b => (ev T c).bnd fun d => match d with
    | .bl true => ev T a
    | .bl false => ev T b
    | _ => M.fail
  | .call f as => (evG T as).bnd (callM T f)
  | .cpy p as => fun s => match evqs T s as with
    | some ds => (p.fn ds).map fun d => .ok d s
    | none => none
  | .calL f as => (evG T as).bnd (callL T f)
  | .callT f a => (ev T a).bnd (callT T f)
  | .callS f as => (evG T as).bnd (callS T f)
  | .tupM i as => fun s => match s.ρ[i]? with
    | some (some _) => ((evs T as).bnd fun ds => (frvM i).bnd fun d => if ds.length < lim then M.ret (.tup (d :: ds)) else M.fail) s
    | _ => none
  | .meth C m f q as => fun s => match evq T s q with
    | some d => if isObjD C m s d && allF d then ((evG T as).bnd fun vs => callM T f (.val d :: vs)) s else none
    | none => none
  | .mk C f fz as => (evG T as).bnd (mkM T C f fz)
  | .cin C f a q => ((ev T a).bnd fun d => M.ret (frz d)).bnd (cinM T C f q)
  | .mkO C f as e => fun s => match evqs T s as with
    | some ds => if allFs ds then ((ev T e).bnd fun d => mkSh T C f (ds ++ [d])) s else none
    | none => none
  | .methv C m f o as => ((ev T o).bnd fun d => M.ret (frz d)).bnd fun x s => if isObjD C m s x then ((evG T as).bnd fun vs => callM T f (.val x :: vs)) s else none
  | .lc tg sk src cond e => ((evs T src).bnd fun ds => M.opt (srcD sk ds)).bnd fun items => lcM tg (evc T cond) (ev T e) items
  | .lcB tg i cond e => fun s => match s.ρ[i]? with
    | some (some (.lst true ds)) => if allFs ds && !tg.contains i then lcMB i (.lst true ds) tg (evc T cond) (ev T e) ds s else none
    | _ => none
  | .dc tg sk src k e => ((evs T src).bnd fun ds => M.opt (srcD sk ds)).bnd fun items => dcM tg (ev T k) (ev T e) items
  | .chn p q a b c => if p.quiet && q.quiet then (ev T a).bnd fun x => (ev T b).bnd fun y => match p.fn [frz x, frz y] with
    | some (.bl true) => (ev T c).bnd fun z => match q.fn [frz y, frz z] with
      | some d => if allF d then M.ret d else M.fail
      | none => M.fail
    | some (.bl false) => M.ret (.bl false)
    | _ => M.fail
    else M.fail
  | .mt m (.var i) as => fun s => match s.ρ[i]? with
    | some (some o) => if m.kind o then (((evs T as).bnd fun ds s => match s.ρ[i]? with
      | some (some o) => (m.fn o ds).map fun (o', d) => .ok d ⟨s.ρ.set i (some o'), s.μ⟩
      | _ => none) s) else none
    | _ => none
  | .slc a lo hi => ((match a with
      | .var i => slotM i
      | a => (ev T a).bnd fun d => M.ret (.val (frz d))) : M AV).bnd fun v => (evP T lo).bnd fun l => (evP T hi).bnd fun h s => ((v.get s).bind fun d => slD d l h).map fun d => .ok d s
  | .joi z a => (ev T a).bnd fun d => M.opt (joinD (.str z) d)
  | .dgt a k x => (ev T a).bnd fun d => match d with
    | .dic false ks ds => (ev T k).bnd fun k => (ev T x).bnd fun x => M.opt (get2D (.dic false ks ds) k (frz x))
    | _ => M.fail
  | _ => M.fail

def evP (T : Tab) : List Ex → M (Option Int)
  | [] => M.ret none
  | [a] => (ev T a).bnd fun d => match d with
    | .int i => M.ret (some i)
    | _ => M.fail
  | _ => M.fail

def evs (T : Tab) : List Ex → M (List D)
  | [] => M.ret []
  | a :: as => (ev T a).bnd fun d => (evs T as).bnd fun ds => M.ret (frz d :: ds)
def evA (T : Tab) : List Ex → M (List AV)
  | [] => M.ret []
  | .var i :: as => (slotM i).bnd fun d => (evA T as).bnd fun ds => M.ret (d :: ds)
  | a :: as => (ev T a).bnd fun d => (evA T as).bnd fun ds => M.ret (.val (frz d) :: ds)
def evG (T : Tab) : List Ex → M (List AV)
  | [] => M.ret []
  | .io i :: as => (slotM i).bnd fun d => (evG T as).bnd fun ds => M.ret (d :: ds)
  | a :: as => (ev T a).bnd fun d => (evG T as).bnd fun ds => M.ret (.val (frz d) :: ds)

def evc (T : Tab) : List Ex → M Bool
  | [] => M.ret true
  | a :: as => (ev T a).bnd fun d => match d with
    | .bl true => evc T as
    | .bl false => M.ret false
    | _ => M.fail
end
end VI
namespace VI
open PySem L2
theorem PE.weak {X : Cx} {e : Expr} {t t' : TE} (h : PE X e t) (w : ∀ σ H Q, t' σ H Q → t σ H Q) : PE X e t' := ⟨fun pins s σ H Q I q => h.run pins s σ H Q I (w σ H Q q)⟩
theorem PA.weak {X : Cx} {e : List Expr} {t t' : TA} (h : PA X e t) (w : ∀ σ H Q, t' σ H Q → t σ H Q) : PA X e t' := ⟨fun pos pins s σ H Q I q => h.run pos pins s σ H Q I (w σ H Q q)⟩
theorem PT.weak {X : Cx} {e : Expr} {t t' : TT} (h : PT X e t) (w : ∀ σ H Q, t' σ H Q → t σ H Q) : PT X e t' := ⟨fun pins s σ H Q I q => h.run pins s σ H Q I (w σ H Q q)⟩
theorem PS.weak {X : Cx} {e : Stmt} {t t' : TS} (h : PS X e t) (w : ∀ D σ H, t' D σ H → t D σ H) : PS X e t' := ⟨fun pins s σ H D I q => h.run pins s σ H D I (w D σ H q)⟩
theorem PSs.weak {X : Cx} {e : List Stmt} {t t' : TS} (h : PSs X e t) (w : ∀ D σ H, t' D σ H → t D σ H) : PSs X e t' := ⟨fun pins s σ H D I q => h.run pins s σ H D I (w D σ H q)⟩
structure New (E E' : Hw) : Prop where
  k : E'.K = E.K
  ct : E'.ct = E.ct
  a : E'.A = E.A
  f : ∀ a o, E.F a = some o → E'.F a = some o
  s : ∀ a o, E'.F a = some o → E'.H a = some o
  h : ∀ a o, E.H a = some o → E'.H a = some o
  n : ∀ a, E.H a ≠ none → E'.F a = E.F a
theorem New.refl {E : Hw} (h : ∀ a o, E.F a = some o → E.H a = some o) : New E E := ⟨rfl, rfl, rfl, fun _ _ h => h, h, fun _ _ h => h, fun _ _ => rfl⟩
theorem New.step {E E' : Hw} (n : New E E') (c : Cn) : Step E c E' := ⟨n.k, n.ct, n.f, ⟨[], by rw [n.a]; simp⟩, fun a o _ h => n.h a o h⟩
theorem New.trans {E E1 E2 : Hw} (n : New E E1) (m : New E1 E2) : New E E2 :=
  ⟨m.k.trans n.k, m.ct.trans n.ct, m.a.trans n.a, fun a o h => m.f a o (n.f a o h), m.s, fun a o h => m.h a o (n.h a o h), fun a h => by
    rw [m.n a, n.n a h]
    intro z
    cases q : E.H a with
    | none => exact h q
    | some o => rw [n.h a o q] at z; cases z⟩
def Hw.lay (E : Hw) (p : Addr) (o : HO) : Hw := { E with H := upd E.H p o }
def Hw.layF (E : Hw) (p : Addr) (o : HO) : Hw := { E with H := upd E.H p o, F := upd E.F p o }
theorem lay_new {E : Hw} (h : ∀ a o, E.F a = some o → E.H a = some o) {p : Addr} {o : HO} (hp : E.H p = none) : New E (E.lay p o) := by
  refine ⟨rfl, rfl, rfl, fun _ _ h => h, fun a u q => ?_, fun a u q => ?_, fun _ _ => rfl⟩
  · show upd E.H p o a = some u
    rw [upd_ne (ne_of_none (h a u q) hp)]
    exact h a u q
  · show upd E.H p o a = some u
    rw [upd_ne (ne_of_none q hp)]
    exact q
theorem layF_new {E : Hw} (h : ∀ a o, E.F a = some o → E.H a = some o) {p : Addr} {o : HO} (hp : E.H p = none) : New E (E.layF p o) := by
  have hF : ∀ a u, E.F a = some u → a ≠ p := fun a u q => ne_of_none (h a u q) hp
  refine ⟨rfl, rfl, rfl, fun a u q => ?_, fun a u q => ?_, fun a u q => ?_, fun a n => ?_⟩
  · show upd E.F p o a = some u
    rw [upd_ne (hF a u q)]
    exact q
  · by_cases z : a = p
    · subst z
      have e : upd E.F a o a = some u := q
      rw [upd_same] at e
      show upd E.H a o a = some u
      rw [upd_same]
      exact e
    · have e : upd E.F p o a = some u := q
      rw [upd_ne z] at e
      show upd E.H p o a = some u
      rw [upd_ne z]
      exact h a u e
  · show upd E.H p o a = some u
    rw [upd_ne (ne_of_none q hp)]
    exact q
  · show upd E.F p o a = E.F a
    exact upd_ne fun z => n (by rw [z]; exact hp)
theorem Wd.new {E E' : Hw} {σ : L2.St} {s : VS} {ce c : Cn} (w : Wd E σ s ce) (n : New E E') (h1 : ∀ q, c q ≤ 1) (h2 : ∀ q, c q ≠ 0 → E.H q = none ∧ E'.F q = none ∧ E'.H q ≠ none) : Wd E' σ s (cadd ce c) := by
  obtain ⟨c1, c2, a, b, t, f⟩ := w.own
  have d1 : ∀ p, c1 p + c2 p + ce p ≠ 0 → E.H p ≠ none := fun p z => by
    by_cases z1 : c1 p = 0
    · by_cases z2 : c2 p = 0
      · exact w.ex p (by omega)
      · exact RM.dom b p z2
    · exact RE.dom a p z1
  refine ⟨n.s, ⟨c1, c2, RE.mono (n.step _) a, by rw [n.a]; exact RM.mono (n.step _) b, fun p => ?_, fun p z => ?_⟩, fun p z => ?_⟩
  · have := t p
    have := h1 p
    simp only [cadd]
    by_cases zc : c p = 0
    · omega
    · have := d1 p
      have : c1 p + c2 p + ce p = 0 := by
        by_cases y : c1 p + c2 p + ce p = 0
        · exact y
        · exact absurd (h2 p zc).1 (d1 p y)
      omega
  · simp only [cadd] at z
    by_cases zc : c p = 0
    · have y : c1 p + c2 p + ce p ≠ 0 := by omega
      rw [n.n p (d1 p y)]
      exact f p y
    · exact (h2 p zc).2.1
  · simp only [cadd] at z
    by_cases zc : c p = 0
    · have y : ce p ≠ 0 := by omega
      intro q
      cases r : E.H p with
      | none => exact w.ex p y r
      | some o => rw [n.h p o r] at q; cases q
    · exact (h2 p zc).2.2
theorem Wd.freeze {E : Hw} {σ : L2.St} {s : VS} {ce c : Cn} {d : D} {v : V} (w : Wd E σ s (cadd ce c)) (r : RT E d v c) :
    ∃ E', Step E ce E' ∧ E'.H = E.H ∧ RT E' (frz d) v cz ∧ Wd E' σ s ce := by
  obtain ⟨c1, c2, a, b, t, f⟩ := w.own
  simp only [cadd] at t f
  have fn : ∀ p, c p ≠ 0 → E.F p = none := fun p z => f p (by omega)
  let E' : Hw := { E with F := fun p => if c p = 0 then E.F p else E.H p }
  have hf : ∀ p o, E.F p = some o → E'.F p = some o := fun p o h => by
    show (if c p = 0 then E.F p else E.H p) = some o
    by_cases z : c p = 0
    · rw [if_pos z]; exact h
    · rw [fn p z] at h; cases h
  have st : ∀ c', Step E c' E' := fun c' => ⟨rfl, rfl, hf, ⟨[], by simp [E']⟩, fun _ _ _ h => h⟩
  refine ⟨E', st ce, rfl, RT.freeze (E := E) (E' := E') rfl rfl rfl hf d r fun p o z h => ?_, ⟨fun p o h => ?_, ⟨c1, c2, RE.mono (st _) a, RM.mono (st _) b, fun p => by have := t p; omega, fun p z => ?_⟩, fun p z => w.ex p (by simp only [cadd]; omega)⟩⟩
  · show (if c p = 0 then E.F p else E.H p) = some o
    rw [if_neg z]
    exact h
  · have h' : (if c p = 0 then E.F p else E.H p) = some o := h
    by_cases z : c p = 0
    · rw [if_pos z] at h'; exact w.same p o h'
    · rw [if_neg z] at h'; exact h'
  · show (if c p = 0 then E.F p else E.H p) = none
    have := t p
    rw [if_pos (by omega)]
    exact f p (by omega)
def RX (E : Hw) : List D → List V → Prop
  | [], vs => vs = []
  | d :: ds, vs => ∃ v vs' c, vs = v :: vs' ∧ RT E d v c ∧ RX E ds vs'
theorem RTs.rx {E : Hw} : ∀ {ds : List D} {vs : List V} {c : Cn}, RTs E ds vs c → RX E ds vs
  | [], _, _, h => by simp only [RTs] at h; exact h.1
  | d :: ds, _, _, h => by
    simp only [RTs] at h
    obtain ⟨v, vs', c1, c2, rfl, r, q, rfl⟩ := h
    exact ⟨v, vs', c1, rfl, r, RTs.rx q⟩
def PR (K : PySem.W.Frag) (ct : CT) (p : Pr) (vs : List V) (H : Hp) (Q : VK) : Prop :=
  ∃ (E : Hw) (ds : List D) (d : D), E.K = K ∧ E.ct = ct ∧ E.H = H ∧ (∀ a o, E.F a = some o → E.H a = some o) ∧ RX E ds vs ∧ p.fn ds = some d ∧
    if p.quiet = true then ∀ v, RT E d v cz → Q v H
    else ∀ (v : V) (E' : Hw) (c : Cn), New E E' → RT E' d v c → (∀ q, c q ≤ 1) → (∀ q, c q ≠ 0 → E.H q = none ∧ E'.F q = none) → Q v E'.H
section
variable {α β γ δ : Type} {K : PySem.W.Frag} {ct : CT} {W : WX} {Rel : Hw → α → β → Cn → Prop} {Rel' : Hw → γ → δ → Cn → Prop} {m : M α} {f : α → M γ} {σ : L2.St} {E : Hw} {s : VS} {ce : Cn} {Q : δ → Hp → Prop} {R : β → Hp → Prop}
theorem RA.ok {a : α} {s' : VS} (e : m s = some (.ok a s')) : RA W Rel m σ E s ce R = ∀ (b : β) (E' : Hw) (c : Cn), Step E ce E' → Rel E' a b c → Wd E' σ s' (cadd ce c) → R b E'.H := by
  unfold RA
  rw [e]
theorem RA.exc {x : EXC} {s' : VS} (e : m s = some (.ex x s')) : RA W Rel m σ E s ce R = ∀ (cls : Value) (d : Option Addr) (E' : Hw), Step E ce E' → ExR E' x cls d → Wd E' σ s' ce → W cls d σ E'.H := by
  unfold RA
  rw [e]
theorem RA.non (e : m s = none) : RA W Rel m σ E s ce R = False := by
  unfold RA
  rw [e]
theorem RA.eq {m' : M α} (e : m s = m' s) (h : RA W Rel m σ E s ce R) : RA W Rel m' σ E s ce R := by
  unfold RA at h ⊢
  rw [← e]
  exact h
theorem RA.bnd (h : RA W Rel' (m.bnd f) σ E s ce Q)
    (k : ∀ (a : α) (b : β) (E1 : Hw) (s1 : VS) (c : Cn), Step E ce E1 → Rel E1 a b c → Wd E1 σ s1 (cadd ce c) → RA W Rel' (f a) σ E1 s1 ce Q → R b E1.H) : RA W Rel m σ E s ce R := by
  cases q : m s with
  | none =>
    rw [RA.non (show M.bnd m f s = none by unfold M.bnd; rw [q])] at h
    exact h.elim
  | some r =>
    cases r with
    | ex x s' =>
      rw [RA.exc (show M.bnd m f s = some (.ex x s') by unfold M.bnd; rw [q])] at h
      rw [RA.exc q]
      exact h
    | ok a s' =>
      have e : M.bnd m f s = f a s' := by unfold M.bnd; rw [q]
      rw [RA.ok q]
      intro b E' c st r w'
      refine k a b E' s' c st r w' ?_
      cases q2 : f a s' with
      | none => rw [RA.non (e.trans q2)] at h; exact h.elim
      | some r2 =>
        cases r2 with
        | ok g s2 =>
          rw [RA.ok (e.trans q2)] at h
          rw [RA.ok q2]
          exact fun b E2 c' st2 r' w2 => h b E2 c' (st.trans st2) r' w2
        | ex x s2 =>
          rw [RA.exc (e.trans q2)] at h
          rw [RA.exc q2]
          exact fun cls d E2 st2 r' w2 => h cls d E2 (st.trans st2) r' w2
theorem RA.ret {a : α} {b : β} (h : RA W Rel (M.ret a) σ E s ce R) {E' : Hw} {c : Cn} (st : Step E ce E') (r : Rel E' a b c) (w : Wd E' σ s (cadd ce c)) : R b E'.H := by
  rw [RA.ok (show M.ret a s = some (.ok a s) from rfl)] at h
  exact h b E' c st r w
theorem Run.mk (eK : E.K = K) (ec : E.ct = ct) (w : Wd E σ s ce) (h : RA W Rel m σ E s ce R) : Run K ct W Rel m σ E.H R := ⟨E, s, ce, eK, ec, rfl, w, h⟩
end
end VI
namespace VI
open PySem L2 PyProof.Rows
section
variable {E : Hw} {x y z : V} {a b : D} {c : Cn} {H : Hp} {Q : VK} {K : PySem.W.Frag} {ct : CT} {p : Pr}
theorem rx1 {ds : List D} (h : RX E ds [x]) : ∃ a c, ds = [a] ∧ RT E a x c := by
  cases ds with
  | nil => simp [RX] at h
  | cons a ds =>
    simp only [RX] at h
    obtain ⟨v, vs', c, e, r, h⟩ := h
    cases e
    cases ds with
    | nil => exact ⟨a, c, rfl, r⟩
    | cons b ds => simp only [RX] at h; obtain ⟨_, _, _, e, _⟩ := h; cases e
theorem rx2 {ds : List D} (h : RX E ds [x, y]) : ∃ a b c c', ds = [a, b] ∧ RT E a x c ∧ RT E b y c' := by
  cases ds with
  | nil => simp [RX] at h
  | cons a ds =>
    simp only [RX] at h
    obtain ⟨v, vs', c, e, r, h⟩ := h
    cases e
    obtain ⟨b, c', rfl, r'⟩ := rx1 h
    exact ⟨a, b, c, c', rfl, r, r'⟩
theorem PR.q {vs : List V} (h : PR K ct p vs H Q) (hq : p.quiet = true) : ∃ (E : Hw) (ds : List D) (d : D), E.K = K ∧ E.ct = ct ∧ E.H = H ∧ (∀ a o, E.F a = some o → E.H a = some o) ∧ RX E ds vs ∧ p.fn ds = some d ∧ ∀ v, RT E d v cz → Q v H := by
  obtain ⟨E, ds, d, e1, e2, e3, hs, hx, hf, k⟩ := h
  rw [if_pos hq] at k
  exact ⟨E, ds, d, e1, e2, e3, hs, hx, hf, k⟩
theorem PR.n {vs : List V} (h : PR K ct p vs H Q) (hq : p.quiet = false) : ∃ (E : Hw) (ds : List D) (d : D), E.K = K ∧ E.ct = ct ∧ E.H = H ∧ (∀ a o, E.F a = some o → E.H a = some o) ∧ RX E ds vs ∧ p.fn ds = some d ∧
    ∀ (v : V) (E' : Hw) (c : Cn), New E E' → RT E' d v c → (∀ q, c q ≤ 1) → (∀ q, c q ≠ 0 → E.H q = none ∧ E'.F q = none) → Q v E'.H := by
  obtain ⟨E, ds, d, e1, e2, e3, hs, hx, hf, k⟩ := h
  rw [if_neg (by rw [hq]; decide)] at k
  exact ⟨E, ds, d, e1, e2, e3, hs, hx, hf, k⟩
theorem flat_end {d : D} {v : V} (hs : ∀ a o, E.F a = some o → E.H a = some o) (k : ∀ (v : V) (E' : Hw) (c : Cn), New E E' → RT E' d v c → (∀ q, c q ≤ 1) → (∀ q, c q ≠ 0 → E.H q = none ∧ E'.F q = none) → Q v E'.H) (r : RT E d v cz) : Q v E.H :=
  k v E cz (New.refl hs) r (fun _ => Nat.zero_le _) fun q h => absurd rfl h
theorem list_end {ds : List D} {vs : List V} {q : Addr} (hs : ∀ a o, E.F a = some o → E.H a = some o) (k : ∀ (v : V) (E' : Hw) (c : Cn), New E E' → RT E' (.lst true ds) v c → (∀ q, c q ≤ 1) → (∀ q, c q ≠ 0 → E.H q = none ∧ E'.F q = none) → Q v E'.H)
    (r : RTs E ds vs cz) (hq : E.H q = none) : Q (.ref q) (upd E.H q (.lst vs)) := by
  have n : New E (E.lay q (.lst vs)) := lay_new hs hq
  refine k (.ref q) (E.lay q (.lst vs)) (cadd (one q) cz) n ?_ (fun p => ?_) fun p h => ?_
  · simp only [RT]
    exact ⟨q, vs, cz, rfl, upd_same, RTs.mono ds (n.step _) r, rfl⟩
  · simp only [cadd, one, cz]
    split <;> omega
  · have e : p = q := by
      by_cases z : p = q
      · exact z
      · simp [cadd, one, z] at h
    subst e
    refine ⟨hq, ?_⟩
    show E.F p = none
    cases r : E.F p with
    | none => rfl
    | some o => rw [hs p o r] at hq; cases hq
theorem RTs.fz {E : Hw} {ds : List D} {vs : List V} {c : Cn} (h : RTs E ds vs c) (g : allFs ds = true) : RTs E ds vs cz := by
  have e := RTs.allF ds h g
  rw [e] at h
  exact h
theorem lst_at {o : Bool} {ds : List D} (hs : ∀ a o, E.F a = some o → E.H a = some o) (r : RT E (.lst o ds) x c) : ∃ a vs c', x = .ref a ∧ E.H a = some (.lst vs) ∧ RTs E ds vs c' ∧ (o = false → E.F a = some (.lst vs) ∧ c' = cz) := by
  cases o with
  | true =>
    simp only [RT] at r
    obtain ⟨a, vs, c', e, q, t, _⟩ := r
    exact ⟨a, vs, c', e, q, t, fun z => by cases z⟩
  | false =>
    simp only [RT] at r
    obtain ⟨_, a, vs, e, q, t⟩ := r
    exact ⟨a, vs, cz, e, hs _ _ q, t, fun _ => ⟨q, rfl⟩⟩
theorem tup_at {ds : List D} (hs : ∀ a o, E.F a = some o → E.H a = some o) (r : RT E (.tup ds) x c) : ∃ a vs, x = .ref a ∧ E.F a = some (.tup vs) ∧ E.H a = some (.tup vs) ∧ RTs E ds vs c := by
  simp only [RT] at r
  obtain ⟨a, vs, e, q, t⟩ := r
  exact ⟨a, vs, e, q, hs _ _ q, t⟩
theorem RTs.at {E : Hw} : ∀ {ds : List D} {vs : List V} {c : Cn} {i : Nat} {d : D}, RTs E ds vs c → ds[i]? = some d → ∃ v c', vs[i]? = some v ∧ RT E d v c'
  | [], _, _, _, _, _, e => by simp at e
  | d :: ds, _, _, 0, d', h, e => by
    simp only [RTs] at h
    obtain ⟨v, vs', c1, c2, rfl, r, q, rfl⟩ := h
    have : d = d' := by simpa using e
    subst this
    exact ⟨v, c1, rfl, r⟩
  | d :: ds, _, _, i + 1, d', h, e => by
    simp only [RTs] at h
    obtain ⟨v, vs', c1, c2, rfl, r, q, rfl⟩ := h
    obtain ⟨v', c', e', r'⟩ := RTs.at (i := i) q (by simpa using e)
    exact ⟨v', c', by simpa using e', r'⟩
theorem RT.okA {E : Hw} {d d' : D} {v : V} {c : Cn} (r : RT E d v c) (h : okA d = some d') : d = d' ∧ RT E d v cz := by
  unfold VI.okA at h
  split at h
  · rename_i g
    have e := RT.allF d r g
    rw [e] at r
    exact ⟨Option.some.inj h, r⟩
  · cases h
mutual

theorem RT.dp {E : Hw} {K : PySem.W.Frag} (hs : ∀ a o, E.F a = some o → E.H a = some o) : ∀ (d : D) {v : V} {c : Cn} {x : PyData}, RT E d v c → toPy d = some x → Dp K E.H v x
  | .non, _, _, _, r, h => by simp only [RT] at r; simp only [toPy] at h; cases h; rw [r.1]; exact .non
  | .bl b, _, _, _, r, h => by simp only [RT] at r; simp only [toPy] at h; cases h; rw [r.1]; exact .bl b
  | .int b, _, _, _, r, h => by simp only [RT] at r; simp only [toPy] at h; cases h; rw [r.1]; exact .int b
  | .str b, _, _, _, r, h => by simp only [RT] at r; simp only [toPy] at h; cases h; rw [r.1]; exact .str b
  | .lst o ds, _, _, _, r, h => by
    obtain ⟨a, vs, c', rfl, q, t, _⟩ := lst_at hs r
    simp only [toPy, Option.map_eq_some_iff] at h
    obtain ⟨xs, e, rfl⟩ := h
    exact .lst (.inl (.inl q)) (RTs.dp hs ds t e)
  | .tup ds, _, _, _, r, h => by
    obtain ⟨a, vs, rfl, _, q, t⟩ := tup_at hs r
    simp only [toPy, Option.map_eq_some_iff] at h
    obtain ⟨xs, e, rfl⟩ := h
    exact .tup (.inl (.inl q)) (RTs.dp hs ds t e)
  | .dic _ _ _, _, _, _, _, h => by simp [toPy] at h
  | .ins _ _ _, _, _, _, _, h => by simp [toPy] at h
  | .ref _, _, _, _, _, h => by simp [toPy] at h
  | .scr _, _, _, _, _, h => by simp [toPy] at h
  | .exc _ _ _, _, _, _, _, h => by simp [toPy] at h
theorem RTs.dp {E : Hw} {K : PySem.W.Frag} (hs : ∀ a o, E.F a = some o → E.H a = some o) : ∀ (ds : List D) {vs : List V} {c : Cn} {xs : List PyData}, RTs E ds vs c → toPys ds = some xs → DpAll K E.H vs xs
  | [], _, _, _, r, h => by simp only [RTs] at r; simp only [toPys] at h; cases h; rw [r.1]; exact .nil
  | d :: ds, _, _, _, r, h => by
    simp only [RTs] at r
    obtain ⟨v, vs', c1, c2, rfl, r, q, rfl⟩ := r
    simp only [toPys] at h
    cases e1 : toPy d with
    | none => rw [e1] at h; cases h
    | some x =>
      rw [e1] at h
      cases e2 : toPys ds with
      | none => rw [e2] at h; cases h
      | some ys =>
        rw [e2] at h
        cases h
        exact .cons (RT.dp hs d r e1) (RTs.dp hs ds q e2)
end
theorem rt_bl {k : Bool} : RT E (.bl k) (.bl k) cz := by simp only [RT]; exact ⟨trivial, trivial⟩
theorem rt_int {i : Int} : RT E (.int i) (.int i) cz := by simp only [RT]; exact ⟨trivial, trivial⟩
theorem rt_str {i : Str} : RT E (.str i) (.str i) cz := by simp only [RT]; exact ⟨trivial, trivial⟩
theorem rt_non : RT E .non .non cz := by simp only [RT]; exact ⟨trivial, trivial⟩
theorem RT.int {i : Int} (h : RT E (.int i) x c) : x = .int i := by simp only [RT] at h; exact h.1
theorem RT.bl {i : Bool} (h : RT E (.bl i) x c) : x = .bl i := by simp only [RT] at h; exact h.1
theorem RT.str {i : Str} (h : RT E (.str i) x c) : x = .str i := by simp only [RT] at h; exact h.1
theorem RT.non (h : RT E .non x c) : x = .non := by simp only [RT] at h; exact h.1
theorem rts_app : ∀ {ds es : List D} {vs ws : List V}, RTs E ds vs cz → RTs E es ws cz → RTs E (ds ++ es) (vs ++ ws) cz
  | [], _, _, _, h1, h2 => by simp only [RTs] at h1; rw [h1.1]; exact h2
  | d :: ds, es, _, ws, h1, h2 => by
    simp only [RTs] at h1
    obtain ⟨v, vs', c1, c2, rfl, r, q, e⟩ := h1
    obtain ⟨rfl, rfl⟩ := cadd_z e
    simp only [List.cons_append, RTs]
    exact ⟨v, vs' ++ ws, cz, cz, rfl, r, rts_app q h2, rfl⟩
theorem rts_rep {ds : List D} {vs : List V} (h : RTs E ds vs cz) : ∀ m : Nat, RTs E (List.replicate m ds).flatten (List.replicate m vs).flatten cz
  | 0 => by simp [RTs]
  | m + 1 => by
    rw [List.replicate_succ, List.flatten_cons, List.replicate_succ, List.flatten_cons]
    exact rts_app h (rts_rep h m)
theorem lim_ok {n : Nat} (h : n ≤ lim) : n ≤ sizeLine := Nat.le_trans h (by decide)
end
section
variable {X : Cx} {ct : CT}
theorem o_add : OpR X (binaryOp .Add) (fun x y H Q => PR X.K ct .add [x, y] H Q) := by
  intro pins s σ H x y v u Q I rx ry h
  obtain ⟨E, ds, d, eK, rfl, rfl, hs, hx, hf, k⟩ := h.n rfl
  obtain ⟨a, b, ca, cb, rfl, ra, rb⟩ := rx2 hx
  have hf : addD a b = some d := hf
  unfold addD at hf
  split at hf
  · cases hf
    exact op_add pins s σ _ x y v u Q I rx ry ⟨_, _, ra.int, rb.int, flat_end hs k rt_int⟩
  · cases hf
    rename_i i kb
    exact op_add_ib pins s σ _ x y v u Q I rx ry ⟨_, _, ra.int, rb.bl, flat_end hs k rt_int⟩
  · split at hf
    · rename_i hl
      cases hf
      exact op_add_str pins s σ _ x y v u Q I rx ry ⟨_, _, ra.str, rb.str, lim_ok hl, flat_end hs k rt_str⟩
    · cases hf
  · split at hf
    · rename_i hl
      simp only [Bool.and_eq_true, decide_eq_true_eq] at hl
      cases hf
      obtain ⟨p, vs, c1, e1, q1, t1, _⟩ := lst_at hs ra
      obtain ⟨p', vs', c2, e2, q2, t2, _⟩ := lst_at hs rb
      have t1 := t1.fz hl.1.1
      have t2 := t2.fz hl.1.2
      refine op_cat pins s σ _ x y v u Q I rx ry ⟨p, p', vs, vs', e1, e2, q1, q2, lim_ok (by rw [← t1.length, ← t2.length]; exact hl.2), fun q hq => list_end hs k ?_ hq⟩
      exact rts_app t1 t2
    · cases hf
  · cases hf
theorem o_ints {f : Value → Value → Sem Value} {p : Pr} {C : Int → Int → Prop} {g : Int → Int → V} (hq : p.quiet = true) (rule : OpR X f (rI C g))
    (hf : ∀ a b d, p.fn [a, b] = some d → ∃ i j, a = .int i ∧ b = .int j ∧ C i j ∧ ∀ E, RT E d (g i j) cz) : OpR X f (fun x y H Q => PR X.K ct p [x, y] H Q) := by
  intro pins s σ H x y v u Q I rx ry h
  obtain ⟨E, ds, d, eK, rfl, rfl, hs, hx, h1, k⟩ := h.q hq
  obtain ⟨a, b, ca, cb, rfl, ra, rb⟩ := rx2 hx
  obtain ⟨i, j, rfl, rfl, c, r⟩ := hf a b d h1
  exact rule pins s σ _ x y v u Q I rx ry ⟨i, j, ra.int, rb.int, c, k _ (r E)⟩
theorem rI_of {f : Value → Value → Sem Value} {g : Int → Int → V} (h : OpR X f (rI0 g)) : OpR X f (rI (fun _ _ => True) g) := by
  intro pins s σ H x y v u Q I rx ry q
  obtain ⟨i, j, e1, e2, _, q⟩ := q
  exact h pins s σ H x y v u Q I rx ry ⟨i, j, e1, e2, q⟩
theorem o_mod : OpR X (binaryOp .Mod) (fun x y H Q => PR X.K ct .mod [x, y] H Q) := o_ints rfl op_mod fun a b d h => by
  cases a <;> cases b <;> first | (cases h; done) | skip
  simp only [Pr.fn, fn2, modD, fdivD, powD] at h
  split at h
  · rename_i q
    cases h
    exact ⟨_, _, rfl, rfl, q, fun E => rt_int⟩
  · cases h
theorem o_fdiv : OpR X (binaryOp .FloorDiv) (fun x y H Q => PR X.K ct .fdiv [x, y] H Q) := o_ints rfl op_fdivW fun a b d h => by
  cases a <;> cases b <;> first | (cases h; done) | skip
  simp only [Pr.fn, fn2, modD, fdivD, powD] at h
  split at h
  · rename_i q
    cases h
    exact ⟨_, _, rfl, rfl, q, fun E => rt_int⟩
  · cases h
theorem o_pow : OpR X (binaryOp .Pow) (fun x y H Q => PR X.K ct .pow [x, y] H Q) := o_ints rfl op_pow fun a b d h => by
  cases a <;> cases b <;> first | (cases h; done) | skip
  simp only [Pr.fn, fn2, modD, fdivD, powD] at h
  split at h
  · rename_i q
    cases h
    exact ⟨_, _, rfl, rfl, q, fun E => rt_int⟩
  · cases h
theorem cmpD_some {f : Int → Int → Bool} {a b d : D} (h : cmpD f a b = some d) : ∃ i j, a = .int i ∧ b = .int j ∧ d = .bl (f i j) := by
  unfold cmpD at h
  split at h
  · cases h; exact ⟨_, _, rfl, rfl, rfl⟩
  · cases h
theorem o_lt : OpR X (compareOp .Lt) (fun x y H Q => PR X.K ct .lt [x, y] H Q) := o_ints rfl (rI_of op_lt) fun a b d h => by
  obtain ⟨i, j, rfl, rfl, rfl⟩ := cmpD_some h
  exact ⟨_, _, rfl, rfl, trivial, fun E => rt_bl⟩
theorem o_ge : OpR X (compareOp .GtE) (fun x y H Q => PR X.K ct .ge [x, y] H Q) := o_ints rfl (rI_of op_ge) fun a b d h => by
  obtain ⟨i, j, rfl, rfl, rfl⟩ := cmpD_some h
  exact ⟨_, _, rfl, rfl, trivial, fun E => rt_bl⟩
theorem op_mulS : OpR X (binaryOp .Mult) (fun x y H Q => ∃ z n, x = .str z ∧ y = .int n ∧ (z.length ≤ 4000 ∧ -(2 ^ 63) ≤ n ∧ n ≤ 4000) ∧ Q (.str (Txt.mul z n)) H) := by
  intro pins s σ H x y v u Q I rx ry h
  obtain ⟨z, n, rfl, rfl, ⟨h1, h2, h3⟩, q⟩ := h
  obtain ⟨t, rfl⟩ := rx
  obtain ⟨t', rfl⟩ := ry
  exact PySem.SB.mul (mulOk_of 4000 4000 h1 h3 h2 (by decide) (by decide)) fun t' k => ⟨.str (Txt.mul z n), H, I.tok _, ⟨_, rfl⟩, q⟩
theorem o_mul : OpR X (binaryOp .Mult) (fun x y H Q => PR X.K ct .mul [x, y] H Q) := by
  intro pins s σ H x y v u Q I rx ry h
  obtain ⟨E, ds, d, eK, rfl, rfl, hs, hx, hf, k⟩ := h.n rfl
  obtain ⟨a, b, ca, cb, rfl, ra, rb⟩ := rx2 hx
  have hf : mulD a b = some d := hf
  unfold mulD at hf
  split at hf
  · split at hf
    · rename_i hl
      cases hf
      exact op_mulS pins s σ _ x y v u Q I rx ry ⟨_, _, ra.str, rb.int, hl, flat_end hs k rt_str⟩
    · cases hf
  · split at hf
    · rename_i hl
      cases hf
      exact op_mulW pins s σ _ x y v u Q I rx ry ⟨_, _, ra.int, rb.int, hl, flat_end hs k rt_int⟩
    · cases hf
  · split at hf
    · rename_i hl
      simp only [Bool.and_eq_true, decide_eq_true_eq] at hl
      cases hf
      obtain ⟨p, vs, c1, e1, q1, t1, _⟩ := lst_at hs ra
      have t1 := t1.fz hl.1
      refine op_rep pins s σ _ x y v u Q I rx ry ⟨p, _, vs, e1, rb.int, q1, hl.2.1, hl.2.2.1, lim_ok (by rw [← t1.length]; exact hl.2.2.2), fun q hq => list_end hs k ?_ hq⟩
      exact rts_rep t1 _
    · cases hf
  · cases hf
theorem eqD_some {a b : D} {k : Bool} (h : eqD a b = some k) : ∃ x y, toPy a = some x ∧ toPy b = some y ∧ SeqAt.shaped x = true ∧ SeqAt.shaped y = true ∧ k = PyData.eqv x y := by
  unfold eqD at h
  split at h
  · rename_i x y e1 e2
    split at h
    · rename_i g
      rw [Bool.and_eq_true] at g
      cases h
      exact ⟨x, y, e1, e2, g.1, g.2, rfl⟩
    · cases h
  · cases h
theorem o_eq (hu : X.A.units + 64 < cLine) : OpR X (compareOp .Eq) (fun x y H Q => PR X.K ct .eq [x, y] H Q) := by
  intro pins s σ H x y v u Q I rx ry h
  obtain ⟨E, ds, d, eK, rfl, rfl, hs, hx, hf, k⟩ := h.q rfl
  obtain ⟨a, b, ca, cb, rfl, ra, rb⟩ := rx2 hx
  have hf : (eqD a b).map .bl = some d := hf
  replace hf := Option.map_eq_some_iff.mp hf
  obtain ⟨kk, hg, rfl⟩ := hf
  obtain ⟨p, q, e1, e2, s1, s2, rfl⟩ := eqD_some hg
  exact op_eqD hu pins s σ _ x y v u Q I rx ry ⟨p, q, RT.dp hs a ra e1, RT.dp hs b rb e2, s1, s2, k _ rt_bl⟩
theorem o_ne (hu : X.A.units + 64 < cLine) : OpR X (compareOp .NotEq) (fun x y H Q => PR X.K ct .ne [x, y] H Q) := by
  intro pins s σ H x y v u Q I rx ry h
  obtain ⟨E, ds, d, eK, rfl, rfl, hs, hx, hf, k⟩ := h.q rfl
  obtain ⟨a, b, ca, cb, rfl, ra, rb⟩ := rx2 hx
  have hf : ((eqD a b).map fun k => .bl (!k)) = some d := hf
  replace hf := Option.map_eq_some_iff.mp hf
  obtain ⟨kk, hg, rfl⟩ := hf
  obtain ⟨p, q, e1, e2, s1, s2, rfl⟩ := eqD_some hg
  exact op_neD hu pins s σ _ x y v u Q I rx ry ⟨p, q, RT.dp hs a ra e1, RT.dp hs b rb e2, s1, s2, k _ rt_bl⟩
theorem RTs.atI {E : Hw} {ds : List D} {vs : List V} {c : Cn} {i : Int} {d d' : D} (h : RTs E ds vs c) (e : (atI ds i).bind okA = some d') : ∃ v, L2.atI vs i = some v ∧ RT E d' v cz := by
  unfold L2.atI at e ⊢
  rw [← h.length]
  cases q : ixN ds.length i with
  | none => rw [q] at e; cases e
  | some j =>
    rw [q] at e
    have e : (ds[j]?).bind okA = some d' := e
    cases q2 : ds[j]? with
    | none => rw [q2] at e; cases e
    | some d0 =>
      rw [q2] at e
      obtain ⟨v, c', e', r⟩ := RTs.at h q2
      obtain ⟨rfl, r⟩ := r.okA (show okA d0 = some d' from e)
      exact ⟨v, e', r⟩
theorem o_ix : IxR X (fun x y H Q => PR X.K ct .ix [x, y] H Q) := by
  intro value slice pins s σ H x y v u Q I rx ry h hsl
  obtain ⟨E, ds, d, eK, rfl, rfl, hs, hx, hf, q⟩ := h.q rfl
  obtain ⟨a, b, ca, cb, rfl, ra, rb⟩ := rx2 hx
  replace hx : ixD a b = some d := hf
  unfold ixD at hx
  split at hx
  · obtain ⟨p, vs, c', e, q1, t, _⟩ := lst_at hs ra
    obtain ⟨w, e', r⟩ := t.atI (d := d) hx
    exact ix_list value slice pins s σ _ x y v u Q I rx ry ⟨p, vs, _, w, e, rb.int, .inl (.inl q1), e', q w r⟩ hsl
  · obtain ⟨p, vs, e, _, q1, t⟩ := tup_at hs ra
    obtain ⟨w, e', r⟩ := t.atI (d := d) hx
    exact ix_tup value slice pins s σ _ x y v u Q I rx ry ⟨p, vs, _, w, e, rb.int, .inl (.inl q1), e', q w r⟩ hsl
  · rename_i ns i
    simp only [RT] at ra
    obtain ⟨_, p, e, q1⟩ := ra
    rw [eK] at q1
    have q1 := sqL_mono hs q1
    rw [Option.map_eq_some_iff] at hx
    obtain ⟨n, e1, rfl⟩ := hx
    refine ix_list value slice pins s σ _ x y v u Q I rx ry ⟨p, _, _, .int n, e, rb.int, q1, ?_, q _ rt_int⟩ hsl
    unfold L2.atI at e1 ⊢
    rw [List.length_map]
    cases q3 : ixN ns.length i with
    | none => rw [q3] at e1; cases e1
    | some j =>
      rw [q3] at e1
      have e1 : ns[j]? = some n := e1
      show (ns.map V.int)[j]? = some (V.int n)
      rw [List.getElem?_map, e1]
      rfl
  · split at hx
    · rename_i hl
      rw [Option.map_eq_some_iff] at hx
      obtain ⟨n, e1, rfl⟩ := hx
      exact ix_str value slice pins s σ _ x y v u Q I rx ry ⟨_, _, n, ra.str, rb.int, lim_ok hl, e1, q _ rt_str⟩ hsl
    · cases hx
  · cases hx
theorem cut_map (vs : List V) (ds : List D) (h : ds.length = vs.length) (lo hi : Option Int) : ∀ {E : Hw}, RTs E ds vs cz → RTs E (cutD ds lo hi) (cutV vs lo hi) cz := by
  intro E t
  unfold cutD cutV
  rw [h]
  have dr : ∀ (n : Nat) {ds : List D} {vs : List V}, RTs E ds vs cz → RTs E (ds.drop n) (vs.drop n) cz := by
    intro n
    induction n with
    | zero => intro ds vs t; exact t
    | succ n ih =>
      intro ds vs t
      cases ds with
      | nil => simp only [RTs] at t; rw [t.1]; simp [RTs]
      | cons d ds =>
        simp only [RTs] at t
        obtain ⟨v, vs', c1, c2, rfl, r, q, e⟩ := t
        obtain ⟨rfl, rfl⟩ := cadd_z e
        exact ih q
  have tk : ∀ (n : Nat) {ds : List D} {vs : List V}, RTs E ds vs cz → RTs E (ds.take n) (vs.take n) cz := by
    intro n
    induction n with
    | zero => intro ds vs t; simp [RTs]
    | succ n ih =>
      intro ds vs t
      cases ds with
      | nil => simp only [RTs] at t; rw [t.1]; simp [RTs]
      | cons d ds =>
        simp only [RTs] at t
        obtain ⟨v, vs', c1, c2, rfl, r, q, e⟩ := t
        obtain ⟨rfl, rfl⟩ := cadd_z e
        simp only [List.take_succ_cons, RTs]
        exact ⟨v, _, cz, cz, rfl, r, ih q, rfl⟩
  exact tk _ (dr _ t)
theorem o_sl : SlR X (fun x lo hi H Q => ∃ (E : Hw) (a d : D) (ca : Cn), E.K = X.K ∧ E.H = H ∧ (∀ a o, E.F a = some o → E.H a = some o) ∧ RT E a x ca ∧ slD a lo hi = some d ∧
    ∀ (v : V) (E' : Hw) (c : Cn), New E E' → RT E' d v c → (∀ q, c q ≤ 1) → (∀ q, c q ≠ 0 → E.H q = none ∧ E'.F q = none) → Q v E'.H) := by
  intro pins s σ H x v vl vu lo hi sl Q I rx hsl pl pu h
  obtain ⟨E, a, d, ca, eK, rfl, hs, ra, hx, k⟩ := h
  unfold slD at hx
  split at hx
  · split at hx
    · rename_i g
      cases hx
      obtain ⟨p, vs, c', e, q1, t, _⟩ := lst_at hs ra
      have t := t.fz g
      exact sl_list pins s σ _ x v vl vu lo hi sl Q I rx hsl pl pu ⟨p, vs, e, .inl (.inl q1), fun q hq => list_end hs k (cut_map _ _ t.length _ _ t) hq⟩
    · cases hx
  · split at hx
    · rename_i g
      cases hx
      exact sl_str pins s σ _ x v vl vu lo hi sl Q I rx hsl pl pu ⟨_, ra.str, lim_ok g, flat_end hs k rt_str⟩
    · cases hx
  · cases hx
theorem PR.one {K : PySem.W.Frag} {p : Pr} {xs : List V} {H : Hp} {Q : VK} {f : D → Option D} (h : PR K ct p xs H Q) (h1 : p.fn = fn1 f) : ∃ (E : Hw) (a d : D) (x : V) (ca : Cn), xs = [x] ∧ E.K = K ∧ E.ct = ct ∧ E.H = H ∧ (∀ a o, E.F a = some o → E.H a = some o) ∧ RT E a x ca ∧ f a = some d ∧
    (p.quiet = true → ∀ v, RT E d v cz → Q v H) ∧
    (p.quiet = false → ∀ (v : V) (E' : Hw) (c : Cn), New E E' → RT E' d v c → (∀ q, c q ≤ 1) → (∀ q, c q ≠ 0 → E.H q = none ∧ E'.F q = none) → Q v E'.H) := by
  obtain ⟨E, ds, d, e1, e2, e3, hs, hx, hf, k⟩ := h
  rw [h1] at hf
  obtain ⟨a, rfl, hf⟩ := fn1_some hf
  simp only [RX] at hx
  obtain ⟨v, vs', c, rfl, r, rfl⟩ := hx
  refine ⟨E, a, d, v, c, rfl, e1, e2, e3, hs, r, hf, fun z => ?_, fun z => ?_⟩
  · rw [if_pos z] at k; exact k
  · rw [if_neg (by rw [z]; decide)] at k; exact k
theorem c_len : CallR X (.builtin "len") (fun xs H Q => PR X.K ct .len xs H Q) := by
  intro pins s σ H xs us Q I r h
  obtain ⟨E, a, d, x, ca, rfl, eK, rfl, rfl, hs, ra, hf, k, _⟩ := h.one rfl
  replace hf := Option.map_eq_some_iff.mp hf
  obtain ⟨n, hl, rfl⟩ := hf
  have q := k rfl _ rt_int
  unfold lenD at hl
  split at hl
  · cases hl
    obtain ⟨p, vs, c', e, q1, t, _⟩ := lst_at hs ra
    rw [t.length] at q
    exact call_len_seq pins s σ _ _ us Q I r ⟨p, vs, by rw [e], .inl (.inl (.inl q1)), q⟩
  · cases hl
    obtain ⟨p, vs, e, _, q1, t⟩ := tup_at hs ra
    rw [t.length] at q
    exact call_len_seq pins s σ _ _ us Q I r ⟨p, vs, by rw [e], .inr (.inl (.inl q1)), q⟩
  · cases hl
    simp only [RT] at ra
    obtain ⟨_, p, e, q1⟩ := ra
    rw [eK] at q1
    have q1 := sqL_mono hs q1
    exact call_len_seq pins s σ _ _ us Q I r ⟨p, _, by rw [e], .inl q1, by rw [List.length_map]; exact q⟩
  · split at hl
    · rename_i g
      cases hl
      exact call_len_str pins s σ _ _ us Q I r ⟨_, by rw [ra.str], lim_ok g, q⟩
    · cases hl
  · cases hl
theorem c_int : CallR X (.type "int") (fun xs H Q => PR X.K ct .int1 xs H Q) := by
  intro pins s σ H xs us Q I r h
  obtain ⟨E, a, d, x, ca, rfl, eK, rfl, rfl, hs, ra, hf, k, _⟩ := h.one rfl
  cases a <;> first | (cases hf; done) | skip
  · cases hf
    exact call_int1 pins s σ _ _ us Q I r (.inr ⟨_, by rw [ra.bl], k rfl _ rt_int⟩)
  · cases hf
    exact call_int1 pins s σ _ _ us Q I r (.inl ⟨_, by rw [ra.int], k rfl _ rt_int⟩)
theorem c_str : CallR X (.type "str") (fun xs H Q => PR X.K ct .str1 xs H Q) := by
  intro pins s σ H xs us Q I r h
  obtain ⟨E, a, d, x, ca, rfl, eK, rfl, rfl, hs, ra, hf, k, _⟩ := h.one rfl
  cases a <;> first | (cases hf; done) | skip
  rename_i i
  replace hf : (if i.natAbs.log2 < 1920 then some (D.str (toString i)) else none) = some d := hf
  split at hf
  · rename_i hi
    cases hf
    exact call_str_int pins s σ _ _ us Q I r ⟨_, by rw [ra.int], hi, k rfl _ rt_str⟩
  · cases hf
theorem c_abs : CallR X (.builtin "abs") (fun xs H Q => PR X.K ct .abs xs H Q) := by
  intro pins s σ H xs us Q I r h
  obtain ⟨E, a, d, x, ca, rfl, eK, rfl, rfl, hs, ra, hf, k, _⟩ := h.one rfl
  cases a <;> first | (cases hf; done) | skip
  cases hf
  exact call_abs pins s σ _ _ us Q I r ⟨_, by rw [ra.int], k rfl _ rt_int⟩
theorem strs_v {E : Hw} : ∀ {ds : List D} {vs : List V} {c : Cn} {ns : List Str}, RTs E ds vs c → strsD ds = some ns → vs = ns.map V.str
  | [], _, _, _, t, h => by simp only [RTs] at t; cases h; rw [t.1]; rfl
  | d :: ds, _, _, _, t, h => by
    simp only [RTs] at t
    obtain ⟨v, vs', c1, c2, rfl, r, q, rfl⟩ := t
    cases d <;> first | (cases h; done) | skip
    simp only [strsD, Option.map_eq_some_iff] at h
    obtain ⟨ms, h, rfl⟩ := h
    rw [r.str, strs_v q h]
    rfl
theorem c_list : CallR X (.type "list") (fun xs H Q => PR X.K ct .list xs H Q) := by
  intro pins s σ H xs us Q I r h
  obtain ⟨E, a, d, x, ca, rfl, eK, rfl, rfl, hs, ra, hf, _, k⟩ := h.one rfl
  have k := k rfl
  unfold listD at hf
  split at hf
  · split at hf
    · rename_i g
      cases hf
      obtain ⟨p, vs, c', rfl, q1, t, _⟩ := lst_at hs ra
      exact call_list_of pins s σ _ _ us Q I r ⟨p, vs, rfl, .inl (.inl (.inl q1)), fun q hq => list_end hs k (t.fz g) hq⟩
    · cases hf
  · split at hf
    · rename_i g
      cases hf
      obtain ⟨p, vs, rfl, _, q1, t⟩ := tup_at hs ra
      exact call_list_of pins s σ _ _ us Q I r ⟨p, vs, rfl, .inr (.inl (.inl q1)), fun q hq => list_end hs k (t.fz g) hq⟩
    · cases hf
  · cases hf
end
end VI
namespace VI
open PySem L2 PyProof.Rows
section
variable (X : Cx) (ct : CT) (W : WX) (T : Tab)
abbrev RT' : Hw → D → V → Cn → Prop := fun E d v c => RT E d v c
def tQ (c : Ex) : TE := fun σ H Q => ∃ (E : Hw) (s : VS) (ce : Cn) (d : D), E.K = X.K ∧ E.ct = ct ∧ E.H = H ∧ Wd E σ s ce ∧ evq T s c = some d ∧ ∀ v cc, RT E d v cc → Q v H
def tV (c : Ex) : TE := fun σ H Q => Run X.K ct W RT' (ev T c) σ H Q
def evA1 (T : Tab) : Ex → M AV
  | .var i => slotM i
  | a => (ev T a).bnd fun d => M.ret (.val (frz d))
def AVR (σ : L2.St) : Hw → AV → V → Cn → Prop := fun E a v c => c = cz ∧ match a with
  | .val d => RT E d v cz
  | .sl i => σ[i]? = some (some v)
def tA1 (c : Ex) : TE := fun σ H Q => Run X.K ct W (AVR σ) (evA1 T c) σ H Q
def RTf : Hw → D → V → Cn → Prop := fun E d v c => c = cz ∧ RT E d v cz
def tF1 (c : Ex) : TE := fun σ H Q => Run X.K ct W RTf ((ev T c).bnd fun d => M.ret (frz d)) σ H Q
def PQ (e : Expr) (c : Ex) : Prop := PE X e (tQ X ct T c)
def PV (e : Expr) (c : Ex) : Prop := PE X e (tV X ct W T c)
def PA1 (e : Expr) (c : Ex) : Prop := PE X e (tA1 X ct W T c)
def PF1 (e : Expr) (c : Ex) : Prop := PE X e (tF1 X ct W T c)
end
section
variable {X : Cx} {ct : CT} {W : WX} {T : Tab} {e a b : Expr} {c ca cb : Ex} {p : Pr}
theorem RE.val {E : Hw} {ρ : List (Option D)} {σ : L2.St} {c : Cn} {i : Nat} {d : D} (h : RE E ρ σ c) (e : ρ[i]? = some (some d)) : ∃ v c1, σ[i]? = some (some v) ∧ RT E d v c1 := by
  obtain ⟨v, c1, _, e1, r, _⟩ := h.at e
  exact ⟨v, c1, e1, r⟩
theorem pq_var {i : Nat} (h : PE X e (tVar i)) : PQ X ct T e (.var i) := PE.weak h fun σ H Q q => by
  obtain ⟨E, s, ce, d, eK, ec, rfl, w, h, k⟩ := q
  obtain ⟨c1, c2, re, _⟩ := w.own
  simp only [evq] at h
  split at h
  · rename_i d' e1
    cases h
    obtain ⟨v, cc, ev, r⟩ := re.val e1
    exact ⟨v, ev, k v cc r⟩
  · cases h
def conV : D → Option V
  | .non => some .non
  | .bl b => some (.bl b)
  | .int i => some (.int i)
  | .str s => some (.str s)
  | _ => none
theorem conV_rt {E : Hw} {d : D} {v : V} (h : conV d = some v) : RT E d v cz := by
  cases d <;> first | (cases h; done) | (cases h; simp only [RT]; exact ⟨trivial, trivial⟩)
theorem pq_con {d : D} {v : V} (hv : conV d = some v) (h : PE X e (tC v)) : PQ X ct T e (.con d) := PE.weak h fun σ H Q q => by
  obtain ⟨E, s, ce, d', eK, ec, rfl, w, h, k⟩ := q
  simp only [evq] at h
  cases h
  exact k v cz (conV_rt hv)
theorem look_fs : ∀ {fs : List (Str × V)} {ks : List Str} {ds : List D} {E : Hw} {c : Cn} (k : Str) {d : D}, fs.map (·.1) = ks → RTs E ds (fs.map (·.2)) c → look ks ds k = some d → ∃ v c', fs.lookup k = some v ∧ RT E d v c'
  | [], _, ds, _, _, k, d, e, t, h => by
    subst e
    cases ds with
    | nil => simp [look] at h
    | cons d ds => simp only [RTs, List.map_nil] at t; obtain ⟨_, _, _, _, z, _⟩ := t; cases z
  | (k', v) :: kvs, _, ds, E, _, k, d, e, t, h => by
    subst e
    cases ds with
    | nil => simp only [RTs, List.map_cons] at t; cases t.1
    | cons d0 ds =>
      simp only [RTs, List.map_cons] at t
      obtain ⟨v', vs', c1, c2, z, r, q, rfl⟩ := t
      cases z
      simp only [List.map_cons, look] at h
      by_cases y : k' = k
      · rw [if_pos y] at h
        cases h
        subst y
        exact ⟨v, c1, by rw [List.lookup_cons, beq_self_eq_true], r⟩
      · rw [if_neg y] at h
        obtain ⟨v2, c3, e2, r2⟩ := look_fs (fs := kvs) (ds := ds) k rfl q h
        refine ⟨v2, c3, ?_, r2⟩
        rw [List.lookup_cons, show (k == k') = false from beq_eq_false_iff_ne.mpr fun z => y z.symm]
        exact e2
theorem RM.at {E : Hw} : ∀ {μ : List RO} {A : List Addr} {c : Cn} {k : Nat} {r : RO} {a : Addr}, RM E μ A c → μ[k]? = some r → A[k]? = some a → ∃ dx fs c1, E.H a = some (.ins (E.ct r.cls) dx fs) ∧ fs.map (·.1) = r.fn ∧ RTs E r.ds (fs.map (·.2)) c1
  | [], _, _, _, _, _, _, e, _ => by simp at e
  | r :: μ, _, _, 0, _, _, h, e, ea => by
    simp only [RM] at h
    obtain ⟨a, A', dx, fs, c1, c2, rfl, q, z, t, m, rfl⟩ := h
    simp only [List.getElem?_cons_zero, Option.some.injEq] at e ea
    subst e ea
    exact ⟨dx, fs, c1, q, z, t⟩
  | r :: μ, _, _, k + 1, _, _, h, e, ea => by
    simp only [RM] at h
    obtain ⟨a, A', dx, fs, c1, c2, rfl, q, z, t, m, rfl⟩ := h
    simp only [List.getElem?_cons_succ] at e ea
    exact RM.at m e ea
def tQs (X : Cx) (ct : CT) (T : Tab) : List Ex → TA
  | [] => tNil
  | a :: as => tCons (tQ X ct T a) (tQs X ct T as)
theorem tQs_ok {E : Hw} {s : VS} {ce : Cn} {σ : L2.St} (eK : E.K = X.K) (ec : E.ct = ct) (w : Wd E σ s ce) : ∀ {as : List Ex} {ds : List D} {Q : List V → Hp → Prop}, evqs T s as = some ds → (∀ vs, RX E ds vs → Q vs E.H) → tQs X ct T as σ E.H Q
  | [], _, _, h, k => by
    simp only [evqs] at h
    cases h
    exact k [] rfl
  | a :: as, _, Q, h, k => by
    simp only [evqs] at h
    split at h
    · rename_i d ds e1 e2
      cases h
      refine ⟨E, s, ce, d, eK, ec, rfl, w, e1, fun v cc r => ?_⟩
      exact tQs_ok eK ec w e2 fun vs rx => k (v :: vs) ⟨v, vs, cc, rfl, r, rx⟩
    · cases h
theorem imp_pq {as : List Ex} {σ : L2.St} {H : Hp} {Q : VK} (hq : p.quiet = true) (z : tQ X ct T (.pr p as) σ H Q) : tQs X ct T as σ H fun vs H1 => PR X.K ct p vs H1 Q := by
  obtain ⟨E, s, ce, d, eK, ec, rfl, w, h, k⟩ := z
  simp only [evq] at h
  rw [Option.bind_eq_some_iff] at h
  obtain ⟨ds, e1, h⟩ := h
  refine tQs_ok eK ec w e1 fun vs rx => ⟨E, ds, d, eK, ec, rfl, w.same, rx, h, ?_⟩
  rw [if_pos hq]
  exact fun v r => k v cz r
theorem pq_pr {as : List Ex} (sh : PE X e (fun σ H Q => tQs X ct T as σ H fun vs H1 => PR X.K ct p vs H1 Q)) (hq : p.quiet = true) : PQ X ct T e (.pr p as) := PE.weak sh fun σ H Q z => imp_pq hq z
theorem ev_q {c : Ex} (h : isQ c = true) (s : VS) : ev T c s = match evq T s c with
    | some d => if allF d then some (.ok d s) else none
    | none => none := by
  cases c <;> first | (simp [isQ] at h; done) | skip
  · simp only [ev, evq]
    all_goals (cases h : s.ρ[‹Nat›]? with
    | none => rfl
    | some o => cases o <;> rfl)
  · simp only [ev, evq]
  · simp only [ev, evq]
    all_goals (cases T.glo ‹Str› <;> rfl)
  · rename_i C q f
    simp only [ev]
    all_goals (cases evq T s (.fld C q f) <;> rfl)
  · rename_i al q f
    simp only [ev]
    all_goals (cases evq T s (.fxq al q f) <;> rfl)
  · rename_i p as
    have h' : (p.quiet && isQs as) = true := by simpa [isQ] using h
    rw [ev, if_pos h']
    all_goals (cases evq T s (.pr p as) <;> rfl)
theorem imp_q {σ : L2.St} {H : Hp} {Q : VK} (hq : isQ c = true) (z : tV X ct W T c σ H Q) : tQ X ct T c σ H Q := by
  obtain ⟨E, s, ce, eK, ec, rfl, w, z⟩ := z
  have e0 := ev_q (T := T) hq s
  cases q : evq T s c with
  | none =>
    rw [q] at e0
    rw [RA.non e0] at z
    exact z.elim
  | some d =>
    rw [q] at e0
    refine ⟨E, s, ce, d, eK, ec, rfl, w, q, fun v cc r => ?_⟩
    by_cases g : allF d = true
    · rw [RA.ok (e0.trans (if_pos g))] at z
      have e := RT.allF d r g
      subst e
      exact z v E cz (Step.refl _ _) r w
    · rw [RA.non (e0.trans (if_neg g))] at z
      exact z.elim
theorem pv_q (h : PQ X ct T e c) (hq : isQ c = true) : PV X ct W T e c := PE.weak h fun σ H Q z => imp_q hq z
theorem pv_frv {i : Nat} (h : PE X e (tVar i)) : PV X ct W T e (.frv i) := PE.weak h fun σ H Q z => by
  obtain ⟨E, s, ce, eK, ec, rfl, w, z⟩ := z
  unfold RA at z
  simp only [ev] at z
  cases e1 : s.ρ[i]? with
  | none => rw [e1] at z; exact z.elim
  | some o =>
   cases o with
   | none => rw [e1] at z; exact z.elim
   | some d =>
    rw [e1] at z
    obtain ⟨c1, c2, re, rm, t, f⟩ := w.own
    obtain ⟨v, cd, c1', e2, r, rfl, re'⟩ := re.at e1
    have w1 : Wd E σ ⟨s.ρ.set i none, s.μ⟩ (cadd ce cd) := ⟨w.same, ⟨c1', c2, re', rm, fun p => by have := t p; simp only [cadd] at this ⊢; omega, fun p n => f p (by simp only [cadd] at n ⊢; omega)⟩, fun p n => by
      by_cases z : ce p = 0
      · exact RT.dom d r p (by simpa [cadd, z] using n)
      · exact w.ex p z⟩
    obtain ⟨E', st, eH, r', w'⟩ := w1.freeze r
    have il : i < s.ρ.length := (List.getElem?_eq_some_iff.mp e1).1
    obtain ⟨c3, c4, re3, rm3, t3, f3⟩ := w'.own
    refine ⟨v, e2, ?_⟩
    have q := z v E' cz st r' ⟨w'.same, ⟨cadd cz c3, c4, ?_, rm3, fun p => by have := t3 p; simp only [cadd, cz]; omega, fun p n => f3 p (by simp only [cadd, cz] at n; omega)⟩, w'.ex⟩
    · rw [eH] at q; exact q
    · have re4 := RE.put (i := i) (d := frz d) (v := v) re3 (by simp [il]) r'
      have es : σ.set i (some v) = σ := by
        apply List.ext_getElem?
        intro j
        by_cases y : j = i
        · subst y; rw [List.getElem?_set_self (List.getElem?_eq_some_iff.mp e2).1]; exact e2.symm
        · rw [List.getElem?_set_ne (Ne.symm y)]
      rw [es] at re4
      have es2 : (s.ρ.set i none).set i (some (frz d)) = s.ρ.set i (some (frz d)) := List.set_set _
      rw [es2] at re4
      exact re4
theorem pv_mov {i : Nat} (h : PE X e (tVar i)) : PV X ct W T e (.mov i) := PE.weak h fun σ H Q z => by
  obtain ⟨E, s, ce, eK, ec, rfl, w, z⟩ := z
  unfold RA at z
  simp only [ev] at z
  cases e1 : s.ρ[i]? with
  | none => rw [e1] at z; exact z.elim
  | some o =>
   cases o with
   | none => rw [e1] at z; exact z.elim
   | some d =>
    rw [e1] at z
    obtain ⟨c1, c2, re, rm, t, f⟩ := w.own
    obtain ⟨v, cd, c1', e2, r, rfl, re'⟩ := re.at e1
    have w1 : Wd E σ ⟨s.ρ.set i none, s.μ⟩ (cadd ce cd) := ⟨w.same, ⟨c1', c2, re', rm, fun p => by have := t p; simp only [cadd] at this ⊢; omega, fun p n => f p (by simp only [cadd] at n ⊢; omega)⟩, fun p n => by
      by_cases z : ce p = 0
      · exact RT.dom d r p (by simpa [cadd, z] using n)
      · exact w.ex p z⟩
    exact ⟨v, e2, z v E cd (Step.refl _ _) r w1⟩
theorem pf_of (h : PV X ct W T e c) : PF1 X ct W T e c := PE.weak h fun σ H Q z => by
  obtain ⟨E, s, ce, eK, ec, rfl, w, z⟩ := z
  refine ⟨E, s, ce, eK, ec, rfl, w, z.bnd fun d v E1 s1 c st r w1 z1 => ?_⟩
  obtain ⟨E', st', eH, r', w'⟩ := w1.freeze r
  have q := z1.ret st' (b := v) ⟨rfl, r'⟩ w'
  rw [eH] at q
  exact q
theorem pa_var {i : Nat} (h : PE X e (tVar i)) : PA1 X ct W T e (.var i) := PE.weak h fun σ H Q z => by
  obtain ⟨E, s, ce, eK, ec, rfl, w, z⟩ := z
  unfold RA at z
  simp only [evA1, slotM] at z
  cases e1 : s.ρ[i]? with
  | none => rw [e1] at z; exact z.elim
  | some o =>
   cases o with
   | none => rw [e1] at z; exact z.elim
   | some d =>
    rw [e1] at z
    obtain ⟨c1, c2, re, rm, t, f⟩ := w.own
    obtain ⟨v, cd, e2, r⟩ := re.val e1
    exact ⟨v, e2, z v E cz (Step.refl _ _) ⟨rfl, e2⟩ w⟩
theorem pa_of (h : PV X ct W T e c) (hc : ∀ i, c ≠ .var i) : PA1 X ct W T e c := PE.weak h fun σ H Q z => by
  have e1 : evA1 T c = (ev T c).bnd fun d => M.ret (.val (frz d)) := by
    cases c <;> first | rfl | exact absurd rfl (hc _)
  unfold tA1 at z
  rw [e1] at z
  obtain ⟨E, s, ce, eK, ec, rfl, w, z⟩ := z
  refine ⟨E, s, ce, eK, ec, rfl, w, z.bnd fun d v E1 s1 c st r w1 z1 => ?_⟩
  obtain ⟨E', st', eH, r', w'⟩ := w1.freeze r
  have q := z1.ret st' (b := v) ⟨rfl, r'⟩ w'
  rw [eH] at q
  exact q
theorem evA_cons (a : Ex) (as : List Ex) : evA T (a :: as) = (evA1 T a).bnd fun v => (evA T as).bnd fun vs => M.ret (v :: vs) := by
  have go : ∀ m : M D, (m.bnd fun d => (evA T as).bnd fun ds => M.ret (.val (frz d) :: ds)) = ((m.bnd fun d => M.ret (.val (frz d))).bnd fun v => (evA T as).bnd fun vs => M.ret (v :: vs)) := fun m => by
    funext s
    unfold M.bnd M.ret
    cases m s with
    | none => rfl
    | some r => cases r <;> rfl
  cases a <;> first | rfl | exact go _
def AVRs (σ : L2.St) (E : Hw) : List AV → List V → Prop
  | [], vs => vs = []
  | a :: as, vs => ∃ v vs', vs = v :: vs' ∧ AVR σ E a v cz ∧ AVRs σ E as vs'
def AVRz (σ : L2.St) : Hw → List AV → List V → Cn → Prop := fun E as vs c => c = cz ∧ AVRs σ E as vs
theorem AVR.mono {σ : L2.St} {E E' : Hw} {a : AV} {v : V} {c : Cn} (h : AVR σ E a v cz) (s : Step E c E') : AVR σ E' a v cz := by
  refine ⟨rfl, ?_⟩
  cases a with
  | val d => exact RT.mono d (s.less fun p h => absurd rfl h) h.2
  | sl i => exact h.2
def tL (X : Cx) (ct : CT) (W : WX) (f : Ex → M AV) : List Ex → TA
  | [] => tNil
  | a :: as => tCons (fun σ H Q => Run X.K ct W (AVR σ) (f a) σ H Q) (tL X ct W f as)
theorem tL_ok {f : Ex → M AV} {fs : List Ex → M (List AV)} (f0 : fs [] = M.ret []) (f1 : ∀ a as, fs (a :: as) = (f a).bnd fun v => (fs as).bnd fun vs => M.ret (v :: vs)) : ∀ {as : List Ex} {σ : L2.St} {E : Hw} {s : VS} {ce : Cn} {Q : List V → Hp → Prop}, E.K = X.K → E.ct = ct → Wd E σ s ce → RA W (AVRz σ) (fs as) σ E s ce Q → tL X ct W f as σ E.H Q
  | [], σ, E, s, ce, Q, eK, ec, w, h => by
    rw [f0] at h
    exact h.ret (Step.refl _ _) (b := []) ⟨rfl, rfl⟩ w
  | a :: as, σ, E, s, ce, Q, eK, ec, w, h => by
    rw [f1] at h
    refine ⟨E, s, ce, eK, ec, rfl, w, h.bnd fun va v E1 s1 c st r w1 z => ?_⟩
    have ecz : c = cz := r.1
    subst ecz
    refine tL_ok f0 f1 (st.k.trans eK) (st.ct.trans ec) w1 (z.bnd fun vas vs E2 s2 c2 st2 r2 w2 z2 => ?_)
    have ecz : c2 = cz := r2.1
    subst ecz
    exact z2.ret (Step.refl _ _) (b := v :: vs) ⟨rfl, v, vs, rfl, r.mono st2, r2.2⟩ w2
def tAs (X : Cx) (ct : CT) (W : WX) (T : Tab) : List Ex → TA := tL X ct W (evA1 T)
theorem tAs_ok {as : List Ex} {σ : L2.St} {E : Hw} {s : VS} {ce : Cn} {Q : List V → Hp → Prop} (eK : E.K = X.K) (ec : E.ct = ct) (w : Wd E σ s ce) (h : RA W (AVRz σ) (evA T as) σ E s ce Q) : tAs X ct W T as σ E.H Q :=
  tL_ok (by simp only [evA]) evA_cons eK ec w h
def evG1 (T : Tab) : Ex → M AV
  | .io i => slotM i
  | a => (ev T a).bnd fun d => M.ret (.val (frz d))
theorem evG_cons (a : Ex) (as : List Ex) : evG T (a :: as) = (evG1 T a).bnd fun v => (evG T as).bnd fun vs => M.ret (v :: vs) := by
  have go : ∀ m : M D, (m.bnd fun d => (evG T as).bnd fun ds => M.ret (.val (frz d) :: ds)) = ((m.bnd fun d => M.ret (.val (frz d))).bnd fun v => (evG T as).bnd fun vs => M.ret (v :: vs)) := fun m => by
    funext s
    unfold M.bnd M.ret
    cases m s with
    | none => rfl
    | some r => cases r <;> rfl
  cases a <;> first | rfl | exact go _
def tGs (X : Cx) (ct : CT) (W : WX) (T : Tab) : List Ex → TA := tL X ct W (evG1 T)
theorem tGs_ok {as : List Ex} {σ : L2.St} {E : Hw} {s : VS} {ce : Cn} {Q : List V → Hp → Prop} (eK : E.K = X.K) (ec : E.ct = ct) (w : Wd E σ s ce) (h : RA W (AVRz σ) (evG T as) σ E s ce Q) : tGs X ct W T as σ E.H Q :=
  tL_ok (by simp only [evG]) evG_cons eK ec w h
def PG1 (X : Cx) (ct : CT) (W : WX) (T : Tab) (e : Expr) (c : Ex) : Prop := PE X e fun σ H Q => Run X.K ct W (AVR σ) (evG1 T c) σ H Q
theorem slot_run {i : Nat} {σ : L2.St} {H : Hp} {Q : VK} (z : Run X.K ct W (AVR σ) (slotM i) σ H Q) : tVar i σ H Q := by
  obtain ⟨E, s, ce, eK, ec, rfl, w, z⟩ := z
  unfold RA at z
  simp only [slotM] at z
  cases e1 : s.ρ[i]? with
  | none => rw [e1] at z; exact z.elim
  | some o =>
   cases o with
   | none => rw [e1] at z; exact z.elim
   | some d =>
    rw [e1] at z
    obtain ⟨c1, c2, re, rm, t, f⟩ := w.own
    obtain ⟨v, cd, e2, r⟩ := re.val e1
    exact ⟨v, e2, z v E cz (Step.refl _ _) ⟨rfl, e2⟩ w⟩
theorem pg_io {i : Nat} (h : PE X e (tVar i)) : PG1 X ct W T e (.io i) := PE.weak h fun σ H Q z => slot_run z
theorem pg_of (h : PV X ct W T e c) (hc : ∀ i, c ≠ .io i) : PG1 X ct W T e c := PE.weak h fun σ H Q z => by
  have e1 : evG1 T c = (ev T c).bnd fun d => M.ret (.val (frz d)) := by
    cases c <;> first | rfl | exact absurd rfl (hc _)
  rw [e1] at z
  obtain ⟨E, s, ce, eK, ec, rfl, w, z⟩ := z
  refine ⟨E, s, ce, eK, ec, rfl, w, z.bnd fun d v E1 s1 c st r w1 z1 => ?_⟩
  obtain ⟨E', st', eH, r', w'⟩ := w1.freeze r
  have q := z1.ret st' (b := v) ⟨rfl, r'⟩ w'
  rw [eH] at q
  exact q
theorem AVRs.rx {E : Hw} {σ : L2.St} {s : VS} {c1 : Cn} (re : RE E s.ρ σ c1) : ∀ {as : List AV} {vs : List V} {ds : List D}, AVRs σ E as vs → AV.gets s as = some ds → RX E ds vs
  | [], vs, ds, h, g => by
    simp only [AV.gets] at g
    cases g
    exact h
  | a :: as, vs, ds, h, g => by
    obtain ⟨v, vs', rfl, r, h⟩ := h
    simp only [AV.gets] at g
    split at g
    · rename_i d ds' e1 e2
      cases g
      cases a with
      | val d' =>
        simp only [AV.get] at e1
        cases e1
        exact ⟨v, vs', cz, rfl, r.2, AVRs.rx re h e2⟩
      | sl i =>
        simp only [AV.get] at e1
        split at e1
        · rename_i d' e3
          cases e1
          obtain ⟨v', cc, e4, r'⟩ := re.val e3
          have e5 : σ[i]? = some (some v) := r.2
          rw [e4] at e5
          cases e5
          exact ⟨_, vs', cc, rfl, r', AVRs.rx re h e2⟩
        · cases e1
    · cases g
theorem PR.of {σ : L2.St} {E : Hw} {s : VS} {ce : Cn} {ds : List D} {vs : List V} {d : D} {Q : VK} (eK : E.K = X.K) (ec : E.ct = ct) (w : Wd E σ s ce) (rx : RX E ds vs) (hf : p.fn ds = some d)
    (k : ∀ (v : V) (E' : Hw) (c : Cn), Step E ce E' → RT E' d v c → Wd E' σ s (cadd ce c) → Q v E'.H) : PR X.K ct p vs E.H Q := by
  refine ⟨E, ds, d, eK, ec, rfl, w.same, rx, hf, ?_⟩
  split
  · exact fun v r => k v E cz (Step.refl _ _) r w
  · intro v E' c n r h1 h2
    exact k v E' c (n.step _) r (w.new n h1 fun q hq => ⟨(h2 q hq).1, (h2 q hq).2, RT.dom d r q hq⟩)
theorem imp_pv {as : List Ex} {σ : L2.St} {H : Hp} {Q : VK} (h1 : (p.quiet && isQs as) = false) (z : tV X ct W T (.pr p as) σ H Q) : tAs X ct W T as σ H fun vs H1 => PR X.K ct p vs H1 Q := by
  obtain ⟨E, s, ce, eK, ec, rfl, w, z⟩ := z
  have e0 : ev T (.pr p as) = (evA T as).bnd fun vs s => match AV.gets s vs with
      | some ds => (p.fn ds).map fun d => .ok d s
      | none => none := by
    rw [ev, if_neg (by rw [h1]; decide)]
    all_goals rfl
  rw [e0] at z
  refine tAs_ok eK ec w (z.bnd fun vas vs E1 s1 c st r w1 z1 => ?_)
  have ecz : c = cz := r.1
  subst ecz
  obtain ⟨c1, c2, re, _⟩ := w1.own
  cases g : AV.gets s1 vas with
  | none => rw [RA.non (by simp only [g])] at z1; exact z1.elim
  | some ds =>
    cases hf : p.fn ds with
    | none => rw [RA.non (by simp only [g, hf]; rfl)] at z1; exact z1.elim
    | some d =>
      rw [RA.ok (a := d) (s' := s1) (by simp only [g, hf]; rfl)] at z1
      exact PR.of (st.k.trans eK) (st.ct.trans ec) w1 (AVRs.rx re r.2 g) hf fun v E' c st' r' w' => z1 v E' c st' r' w'
theorem pv_pr {as : List Ex} (sh : PE X e (fun σ H Q => tAs X ct W T as σ H fun vs H1 => PR X.K ct p vs H1 Q)) (h1 : (p.quiet && isQs as) = false) : PV X ct W T e (.pr p as) := PE.weak sh fun σ H Q z => imp_pv h1 z
def tFs (X : Cx) (ct : CT) (W : WX) (T : Tab) : List Ex → TA
  | [] => tNil
  | a :: as => tCons (tF1 X ct W T a) (tFs X ct W T as)
def RTz : Hw → List D → List V → Cn → Prop := fun E ds vs c => c = cz ∧ RTs E ds vs cz
theorem tFs_ok : ∀ {as : List Ex} {σ : L2.St} {E : Hw} {s : VS} {ce : Cn} {Q : List V → Hp → Prop}, E.K = X.K → E.ct = ct → Wd E σ s ce → RA W RTz (evs T as) σ E s ce Q → tFs X ct W T as σ E.H Q
  | [], σ, E, s, ce, Q, eK, ec, w, h => by
    simp only [evs] at h
    exact h.ret (Step.refl _ _) (b := []) ⟨rfl, by simp [RTs]⟩ w
  | a :: as, σ, E, s, ce, Q, eK, ec, w, h => by
    have e0 : evs T (a :: as) = ((ev T a).bnd fun d => M.ret (frz d)).bnd fun d => (evs T as).bnd fun ds => M.ret (d :: ds) := by
      simp only [evs]
      funext s
      unfold M.bnd M.ret
      cases ev T a s with
      | none => rfl
      | some r => cases r <;> rfl
    rw [e0] at h
    refine ⟨E, s, ce, eK, ec, rfl, w, h.bnd fun d v E1 s1 c st r w1 z => ?_⟩
    have ecz : c = cz := r.1
    subst ecz
    refine tFs_ok (st.k.trans eK) (st.ct.trans ec) w1 (z.bnd fun ds vs E2 s2 c2 st2 r2 w2 z2 => ?_)
    have ecz : c2 = cz := r2.1
    subst ecz
    refine z2.ret (Step.refl _ _) (b := v :: vs) ⟨rfl, ?_⟩ w2
    simp only [RTs]
    exact ⟨v, vs, cz, cz, rfl, RT.mono d (st2.less fun p h => absurd rfl h) r.2, r2.2, rfl⟩
theorem pv_lst {as : List Ex} (sh : PE X e (tLst (tFs X ct W T as))) : PV X ct W T e (.lst as) := PE.weak sh fun σ H Q z => by
  obtain ⟨E, s, ce, eK, ec, rfl, w, z⟩ := z
  simp only [ev] at z
  refine tFs_ok eK ec w (z.bnd fun ds vs E1 s1 c st r w1 z1 => ?_)
  have ecz : c = cz := r.1
  subst ecz
  split at z1
  · rename_i hl
    refine ⟨lim_ok (by rw [← r.2.length]; exact hl), fun q hq => ?_⟩
    refine list_end (Q := Q) w1.same (fun v E' c n r h1 h2 => ?_) r.2 hq
    exact z1.ret (n.step _) r (w1.new n h1 fun q hq => ⟨(h2 q hq).1, (h2 q hq).2, RT.dom _ r q hq⟩)
  · exact (show False from z1).elim
theorem RTbl {E : Hw} {d : D} {v : V} {c : Cn} {k : Bool} (h : d = .bl k) (r : RT E d v c) : v = .bl k ∧ c = cz := by
  subst h
  simp only [RT] at r
  exact r
def tT (X : Cx) (ct : CT) (W : WX) (T : Tab) (c : Ex) : TT := fun σ H Q => Run X.K ct W RT' (ev T c) σ H fun v H' => ∃ k, v = .bl k ∧ Q k H'
def PTc (X : Cx) (ct : CT) (W : WX) (T : Tab) (e : Expr) (c : Ex) : Prop := PT X e (tT X ct W T c)
theorem pt_of (sh : PT X e (tB (tV X ct W T c))) : PTc X ct W T e c := PT.weak sh fun σ H Q z => z
theorem ptc_not (h : PTc X ct W T a ca) (sh : ∀ ta, PT X a ta → PT X e (tNot ta)) : PTc X ct W T e (.not ca) := PT.weak (sh _ h) fun σ H Q z => by
  obtain ⟨E, s, ce, eK, ec, rfl, w, z⟩ := z
  simp only [ev] at z
  refine ⟨E, s, ce, eK, ec, rfl, w, z.bnd fun d v E1 s1 c st r w1 z1 => ?_⟩
  cases d <;> first | exact (show False from z1).elim | skip
  obtain ⟨rfl, rfl⟩ := RTbl rfl r
  obtain ⟨k, e, q⟩ := z1.ret (Step.refl _ _) rt_bl w1
  cases e
  exact ⟨_, rfl, q⟩
end
end VI
namespace VI
open PySem L2 PyProof.Rows
structure XG (X : Cx) : Prop where
  calm : X.calm = true
  nd : X.N.Nodup
  hu : X.A.units + 65 < cLine
section
variable {X : Cx} {ct : CT} {W : WX} {T : Tab} {e a b d : Expr} {c ca cb cd : Ex} {p : Pr} {pos pos' : Pos} {x : Str}
theorem XG.h1 (G : XG X) : X.A.units + 1 < cLine := by have := G.hu; omega
theorem XG.h64 (G : XG X) : X.A.units + 64 < cLine := by have := G.hu; omega
theorem q_bin {op : Operator} (o : OpR X (binaryOp op) (fun x y H Q => PR X.K ct p [x, y] H Q)) (ha : PQ X ct T a ca) (hb : PQ X ct T b cb) (hq : p.quiet = true := by rfl) : PQ X ct T (.BinOp a op b pos) (.pr p [ca, cb]) :=
  pq_pr (pe_op o ha hb) hq
theorem g_bin {op : Operator} (o : OpR X (binaryOp op) (fun x y H Q => PR X.K ct p [x, y] H Q)) (ha : PA1 X ct W T a ca) (hb : PA1 X ct W T b cb) (h1 : (p.quiet && isQs [ca, cb]) = false := by rfl) : PV X ct W T (.BinOp a op b pos) (.pr p [ca, cb]) :=
  pv_pr (pe_op o ha hb) h1
theorem RA.mono {α β : Type} {Rel : Hw → α → β → Cn → Prop} {m : M α} {σ : L2.St} {E : Hw} {s : VS} {ce : Cn} {Q R : β → Hp → Prop} (h : RA W Rel m σ E s ce Q) (k : ∀ b H, Q b H → R b H) : RA W Rel m σ E s ce R := by
  cases e : m s with
  | none => rw [RA.non e] at h; exact h.elim
  | some r =>
    cases r with
    | ok a s' => rw [RA.ok e] at h ⊢; exact fun b E' c st r w => k _ _ (h b E' c st r w)
    | ex x s' => rw [RA.exc e] at h ⊢; exact h
theorem Run.mono {α β : Type} {K : PySem.W.Frag} {Rel : Hw → α → β → Cn → Prop} {m : M α} {σ : L2.St} {H : Hp} {Q R : β → Hp → Prop} (h : Run K ct W Rel m σ H Q) (k : ∀ b H, Q b H → R b H) : Run K ct W Rel m σ H R := by
  obtain ⟨E, s, ce, e1, e2, e3, w, h⟩ := h
  exact ⟨E, s, ce, e1, e2, e3, w, h.mono k⟩
theorem tQ_mono {σ : L2.St} {H : Hp} {Q R : VK} (h : tQ X ct T c σ H Q) (k : ∀ b H, Q b H → R b H) : tQ X ct T c σ H R := by
  obtain ⟨E, s, ce, d, e1, e2, e3, w, h, q⟩ := h
  exact ⟨E, s, ce, d, e1, e2, e3, w, h, fun v cc r => k _ _ (q v cc r)⟩
theorem tFs_mono : ∀ {as : List Ex} {σ : L2.St} {H : Hp} {Q R : List V → Hp → Prop}, tFs X ct W T as σ H Q → (∀ b H, Q b H → R b H) → tFs X ct W T as σ H R
  | [], _, _, _, _, h, k => k _ _ h
  | a :: as, _, _, _, _, h, k => Run.mono (Q := _) h fun v H q => tFs_mono q fun vs H q => k _ _ q
theorem pq1 {r : V → Hp → VK → Prop} (sh : PE X e fun σ H Q => tQ X ct T ca σ H fun x H1 => r x H1 Q) (im : ∀ x H Q, PR X.K ct p [x] H Q → r x H Q) (hq : p.quiet = true) : PQ X ct T e (.pr p [ca]) :=
  pq_pr (PE.weak sh fun σ H Q z => tQ_mono (Q := _) z fun x H q => im x H Q q) hq
theorem pq2 {r : R2} (sh : PE X e (tOp r (tQ X ct T ca) (tQ X ct T cb))) (im : ∀ x y H Q, PR X.K ct p [x, y] H Q → r x y H Q) (hq : p.quiet = true) : PQ X ct T e (.pr p [ca, cb]) :=
  pq_pr (PE.weak sh fun σ H Q z => tQ_mono (show tQ X ct T ca σ H (fun x H1 => tQ X ct T cb σ H1 fun y H2 => PR X.K ct p [x, y] H2 Q) from z) fun x H q => tQ_mono q fun y H q => im x y H Q q) hq
theorem pg2 {r : R2} (sh : PE X e (tOp r (tA1 X ct W T ca) (tA1 X ct W T cb))) (im : ∀ x y H Q, PR X.K ct p [x, y] H Q → r x y H Q) (h1 : (p.quiet && isQs [ca, cb]) = false) : PV X ct W T e (.pr p [ca, cb]) :=
  pv_pr (PE.weak sh fun σ H Q z => Run.mono (Q := _) z fun x H q => Run.mono (Q := _) q fun y H q => im x y H Q q) h1
theorem q_ix (ha : PQ X ct T a ca) (hb : PQ X ct T b cb) (hs : PlainIx b := by exact fun _ _ => rfl) : PQ X ct T (.Subscript a b pos) (.pr .ix [ca, cb]) := pq2 (pe_ix o_ix ha hb hs) (fun _ _ _ _ h => h) rfl
theorem g_ix (ha : PA1 X ct W T a ca) (hb : PA1 X ct W T b cb) (hs : PlainIx b := by exact fun _ _ => rfl) (h1 : isQs [ca, cb] = false := by rfl) : PV X ct W T (.Subscript a b pos) (.pr .ix [ca, cb]) := pg2 (pe_ix o_ix ha hb hs) (fun _ _ _ _ h => h) h1
theorem q_call1 {f : Value} {id : String} (r : CallR X (.builtin id) (fun xs H Q => PR X.K ct p xs H Q)) (hg : Gl X x) (hm : X.mg x = none) (hv : bootBuiltins x = some (.builtin id)) (ha : PQ X ct T a ca) (hq : p.quiet = true := by rfl) (hn : x ≠ "__name__" := by decide) (hdb : (x == ("__debug__" : Str)) = false := by decide)
    (he : starEach [a] X.env = (false, eval a X.env) :: starEach [] X.env := by rfl) : PQ X ct T (.Call (.Name x pos') [a] [] pos) (.pr p [ca]) :=
  pq_pr (pe_callB r hg hm hv (pa_cons ha pa_nil he) hn hdb he rfl) hq
theorem q_callT {id : String} (r : CallR X (.type id) (fun xs H Q => PR X.K ct p xs H Q)) (hg : Gl X x) (hm : X.mg x = none) (hv : bootBuiltins x = some (.type id)) (ha : PQ X ct T a ca) (hq : p.quiet = true := by rfl) (hn : x ≠ "__name__" := by decide) (hdb : (x == ("__debug__" : Str)) = false := by decide)
    (he : starEach [a] X.env = (false, eval a X.env) :: starEach [] X.env := by rfl) : PQ X ct T (.Call (.Name x pos') [a] [] pos) (.pr p [ca]) :=
  pq_pr (pe_callTy r hg hm hv (pa_cons ha pa_nil he) hn hdb he rfl) hq
theorem g_callT {id : String} (r : CallR X (.type id) (fun xs H Q => PR X.K ct p xs H Q)) (hg : Gl X x) (hm : X.mg x = none) (hv : bootBuiltins x = some (.type id)) (ha : PA1 X ct W T a ca) (h1 : (p.quiet && isQs [ca]) = false := by rfl) (hn : x ≠ "__name__" := by decide) (hdb : (x == ("__debug__" : Str)) = false := by decide)
    (he : starEach [a] X.env = (false, eval a X.env) :: starEach [] X.env := by rfl) : PV X ct W T (.Call (.Name x pos') [a] [] pos) (.pr p [ca]) :=
  pv_pr (pe_callTy r hg hm hv (pa_cons ha pa_nil he) hn hdb he rfl) h1
theorem AVR.rt {σ : L2.St} {E0 E : Hw} {s : VS} {c1 c0 : Cn} {a : AV} {v : V} {d : D} (h : AVR σ E0 a v cz) (st : Step E0 c0 E) (re : RE E s.ρ σ c1) (g : a.get s = some d) : ∃ c, RT E d v c := by
  cases a with
  | val d' =>
    simp only [AV.get] at g
    cases g
    exact ⟨cz, RT.mono _ (st.less fun p h => absurd rfl h) h.2⟩
  | sl i =>
    simp only [AV.get] at g
    split at g
    · rename_i d' e3
      cases g
      obtain ⟨v', cc, e4, r'⟩ := re.val e3
      have e5 : σ[i]? = some (some v) := h.2
      rw [e4] at e5
      cases e5
      exact ⟨cc, r'⟩
    · cases g
def IPz : Hw → Option Int → Option Int → Cn → Prop := fun _ i j c => c = cz ∧ i = j
theorem evP_ok {lo : List Ex} {tl : TO} {E : Hw} {s : VS} {ce : Cn} {σ : L2.St} {Q : Option Int → Hp → Prop} (eK : E.K = X.K) (ec : E.ct = ct) (w : Wd E σ s ce) (h : RA W IPz (evP T lo) σ E s ce Q)
    (hl : (lo = [] ∧ tl = tNoPart) ∨ ∃ c, lo = [c] ∧ tl = tPart (tV X ct W T c)) : tl σ E.H Q := by
  rcases hl with ⟨rfl, rfl⟩ | ⟨c, rfl, rfl⟩
  · simp only [evP] at h
    exact h.ret (Step.refl _ _) (b := none) ⟨rfl, rfl⟩ w
  · simp only [evP] at h
    refine ⟨E, s, ce, eK, ec, rfl, w, h.bnd fun d v E1 s1 c st r w1 z1 => ?_⟩
    cases d <;> first | exact (show False from z1).elim | skip
    simp only [RT', RT] at r
    obtain ⟨rfl, rfl⟩ := r
    exact ⟨_, rfl, z1.ret (Step.refl _ _) (b := some _) ⟨rfl, rfl⟩ w1⟩
theorem ev_slc (a : Ex) (lo hi : List Ex) : ev T (.slc a lo hi) = (evA1 T a).bnd fun v => (evP T lo).bnd fun l => (evP T hi).bnd fun h s => ((v.get s).bind fun d => slD d l h).map fun d => .ok d s := by
  cases a <;> rfl
theorem g_sl {lo hi : Option Expr} {clo chi : List Ex} {tl th : TO} {p2 : Pos} (ha : PA1 X ct W T a ca) (hl : PO X lo tl) (hh : PO X hi th) (el : (clo = [] ∧ tl = tNoPart) ∨ ∃ c, clo = [c] ∧ tl = tPart (tV X ct W T c)) (eh : (chi = [] ∧ th = tNoPart) ∨ ∃ c, chi = [c] ∧ th = tPart (tV X ct W T c)) :
    PV X ct W T (.Subscript a (.Slice lo hi none p2) pos) (.slc ca clo chi) := PE.weak (pe_slice (o_sl (X := X)) ha hl hh) fun σ H Q z => by
  obtain ⟨E, s, ce, eK, ec, rfl, w, z⟩ := z
  rw [ev_slc] at z
  refine ⟨E, s, ce, eK, ec, rfl, w, z.bnd fun va v E1 s1 c st r w1 z1 => ?_⟩
  have ecz : c = cz := r.1
  subst ecz
  refine evP_ok (st.k.trans eK) (st.ct.trans ec) w1 (z1.bnd fun i j E2 s2 c2 st2 r2 w2 z2 => ?_) el
  obtain ⟨rfl, rfl⟩ := r2
  refine evP_ok ((st2.k.trans st.k).trans eK) ((st2.ct.trans st.ct).trans ec) w2 (z2.bnd fun i' j' E3 s3 c3 st3 r3 w3 z3 => ?_) eh
  obtain ⟨rfl, rfl⟩ := r3
  obtain ⟨c1, c2, re, _⟩ := w3.own
  cases g : va.get s3 with
  | none => rw [RA.non (by simp only [g]; rfl)] at z3; exact z3.elim
  | some d0 =>
    cases hf : slD d0 i i' with
    | none => rw [RA.non (by simp only [g, Option.bind_some, hf]; rfl)] at z3; exact z3.elim
    | some d =>
      rw [RA.ok (a := d) (s' := s3) (by simp only [g, Option.bind_some, hf]; rfl)] at z3
      obtain ⟨cc, rd⟩ := r.rt (st2.trans st3) re g
      refine ⟨E3, d0, d, cc, ((st3.k.trans st2.k).trans st.k).trans eK, rfl, w3.same, rd, hf, fun v E' c' n r' h1 h2 => ?_⟩
      exact z3 v E' c' (n.step _) r' (w3.new n h1 fun q hq => ⟨(h2 q hq).1, (h2 q hq).2, RT.dom d r' q hq⟩)
theorem opt_ok {α β : Type} {Rel : Hw → α → β → Cn → Prop} {o : Option α} {σ : L2.St} {E : Hw} {s : VS} {ce : Cn} {Q : β → Hp → Prop} (h : RA W Rel (M.opt o) σ E s ce Q) : ∃ a, o = some a ∧ RA W Rel (M.ret a) σ E s ce Q := by
  cases o with
  | none => rw [RA.non rfl] at h; exact h.elim
  | some a => exact ⟨a, rfl, h⟩
theorem g_joi {z : Str} {j} {apos p2 : Pos} (ha : PV X ct W T a ca) (hs : starEach [a] X.env = [(false, eval a X.env)] := by rfl) (hbase : attributeBase (.Constant (.str z) j p2) "join" X.env (eval (.Constant (.str z) j p2) X.env) = eval (.Constant (.str z) j p2) X.env := by rfl) (hline : (apos.endLine == pos.line) = true := by rfl) :
    PV X ct W T (.Call (.Attribute (.Constant (.str z) j p2) "join" apos) [a] [] pos) (.joi z ca) := PE.weak (pe_join pe_str ha hs hbase hline) fun σ H Q zz => by
  obtain ⟨E, s, ce, eK, ec, rfl, w, zz⟩ := zz
  simp only [ev] at zz
  refine ⟨⟨z, rfl⟩, E, s, ce, eK, ec, rfl, w, zz.bnd fun d v E1 s1 c st r w1 z1 => ?_⟩
  obtain ⟨d', hd, z1⟩ := opt_ok z1
  cases d <;> first | (cases hd; done) | skip
  replace hd : ((strsD _).bind fun ys => if (ys.map (·.length)).sum + ys.length * z.length ≤ lim then some (D.str (Txt.join z ys)) else none) = some d' := hd
  rw [Option.bind_eq_some_iff] at hd
  obtain ⟨ys, hy, hd⟩ := hd
  split at hd
  · rename_i hl
    cases hd
    obtain ⟨p, vs, c', rfl, q1, t, _⟩ := lst_at w1.same r
    have e := strs_v t hy
    subst e
    exact ⟨z, p, ys, rfl, rfl, .inl (.inl (.inl q1)), Nat.le_trans hl (by decide), z1.ret (Step.refl _ _) rt_str (w1.less fun p => by simp only [cadd, cz]; omega)⟩
  · cases hd
end
end VI
namespace VI
open PySem L2 PyProof.Rows
def spV (K : PySem.W.Frag) (ct : CT) (n : Nat) (m : List D → List RO → Option CR) : Sp := fun vs H Q E =>
  ∃ (Ew : Hw) (ds : List D) (μ : List RO) (ce : Cn), Ew.K = K ∧ Ew.ct = ct ∧ Ew.H = H ∧ vs.length = n ∧ Wd Ew (vs.map some) ⟨ds.map some, μ⟩ ce ∧ match m ds μ with
    | some (.ok d ps μ') => ∀ (v : V) (E' : Hw) (c : Cn), Step Ew ce E' → RT E' d v c → Wd E' (vs.map some) ⟨ps, μ'⟩ (cadd ce c) → Q v E'.H
    | some (.ex x ps μ') => ∀ (cls : Value) (d : Option Addr) (E' : Hw), Step Ew ce E' → ExR E' x cls d → Wd E' (vs.map some) ⟨ps, μ'⟩ ce → E cls d E'.H
    | none => False
theorem spV_len {K : PySem.W.Frag} {ct : CT} {n : Nat} {m : List D → List RO → Option CR} : ∀ vs H Q E, spV K ct n m vs H Q E → vs.length = n := fun vs H Q E h => by
  obtain ⟨_, _, _, _, _, _, _, h, _⟩ := h
  exact h
mutual

theorem RT.reA {E : Hw} (A : List Addr) : ∀ (d : D) {v : V} {c : Cn}, noRef d = true → RT E d v c → RT { E with A := A } d v c
  | .non, _, _, _, h => by simpa [RT] using h
  | .bl _, _, _, _, h => by simpa [RT] using h
  | .int _, _, _, _, h => by simpa [RT] using h
  | .str _, _, _, _, h => by simpa [RT] using h
  | .lst false ds, _, _, g, h => by
    simp only [noRef] at g
    simp only [RT] at h ⊢
    obtain ⟨rfl, a, vs, e, q, r⟩ := h
    exact ⟨rfl, a, vs, e, q, RTs.reA A ds g r⟩
  | .lst true ds, _, _, g, h => by
    simp only [noRef] at g
    simp only [RT] at h ⊢
    obtain ⟨a, vs, c', e, q, r, rfl⟩ := h
    exact ⟨a, vs, c', e, q, RTs.reA A ds g r, rfl⟩
  | .tup ds, _, _, g, h => by
    simp only [noRef] at g
    simp only [RT] at h ⊢
    obtain ⟨a, vs, e, q, r⟩ := h
    exact ⟨a, vs, e, q, RTs.reA A ds g r⟩
  | .dic false ks ds, _, _, g, h => by
    simp only [noRef] at g
    simp only [RT] at h ⊢
    obtain ⟨rfl, a, kvs, e, q, z, r⟩ := h
    exact ⟨rfl, a, kvs, e, q, z, RTs.reA A ds g r⟩
  | .dic true ks ds, _, _, g, h => by
    simp only [noRef] at g
    simp only [RT] at h ⊢
    obtain ⟨a, kvs, c', e, q, z, r, rfl⟩ := h
    exact ⟨a, kvs, c', e, q, z, RTs.reA A ds g r, rfl⟩
  | .ins C fn ds, _, _, g, h => by
    simp only [noRef] at g
    simp only [RT] at h ⊢
    obtain ⟨rfl, a, dx, fs, e, q, z, r⟩ := h
    exact ⟨rfl, a, dx, fs, e, q, z, RTs.reA A ds g r⟩
  | .dicN false ks ds, _, _, g, h => by
    simp only [noRef] at g
    simp only [RT] at h ⊢
    obtain ⟨rfl, a, kvs, e, q, z, n, r⟩ := h
    exact ⟨rfl, a, kvs, e, q, z, n, RTs.reA A ds g r⟩
  | .dicN true ks ds, _, _, g, h => by
    simp only [noRef] at g
    simp only [RT] at h ⊢
    obtain ⟨a, kvs, c', e, q, z, n, r, rfl⟩ := h
    exact ⟨a, kvs, c', e, q, z, n, RTs.reA A ds g r, rfl⟩
  | .ref k, _, _, g, _ => by simp [noRef] at g
  | .scr ns, _, _, _, h => by simpa [RT] using h
  | .exc C fn ds, _, _, g, h => by
    simp only [noRef] at g
    simp only [RT] at h ⊢
    obtain ⟨a, d, fs, e, q, x, z, r⟩ := h
    exact ⟨a, d, fs, e, q, x, z, RTs.reA A ds g r⟩
theorem RTs.reA {E : Hw} (A : List Addr) : ∀ (ds : List D) {vs : List V} {c : Cn}, noRefs ds = true → RTs E ds vs c → RTs { E with A := A } ds vs c
  | [], _, _, _, h => by simpa [RTs] using h
  | d :: ds, _, _, g, h => by
    simp only [noRefs, Bool.and_eq_true] at g
    simp only [RTs] at h ⊢
    obtain ⟨v, vs', c1, c2, e, r, q, rfl⟩ := h
    exact ⟨v, vs', c1, c2, e, RT.reA A d g.1 r, RTs.reA A ds g.2 q, rfl⟩
end
theorem RE.reA {E : Hw} (A : List Addr) : ∀ {ds : List D} {σ : L2.St} {c : Cn}, noRefs ds = true → RE E (ds.map some) σ c → RE { E with A := A } (ds.map some) σ c
  | [], _, _, _, h => h
  | d :: ds, _, _, g, h => by
    simp only [noRefs, Bool.and_eq_true] at g
    simp only [List.map_cons, RE] at h ⊢
    obtain ⟨v, σ', c1, c2, e, r, q, rfl⟩ := h
    exact ⟨v, σ', c1, c2, e, RT.reA A d g.1 r, RE.reA A g.2 q, rfl⟩
section
variable {E : Hw} {σ : L2.St}
theorem RE.reO {E : Hw} (A : List Addr) : ∀ {ds : List (Option D)} {σ : L2.St} {c : Cn}, noRefO ds = true → RE E ds σ c → RE { E with A := A } ds σ c
  | [], _, _, _, h => h
  | none :: ds, _, _, g, h => by
    simp only [noRefO] at g
    simp only [RE] at h ⊢
    obtain ⟨x, σ', e, r⟩ := h
    exact ⟨x, σ', e, RE.reO A g r⟩
  | some d :: ds, _, _, g, h => by
    simp only [noRefO, Bool.and_eq_true] at g
    simp only [RE] at h ⊢
    obtain ⟨v, σ', c1, c2, e, r, q, rfl⟩ := h
    exact ⟨v, σ', c1, c2, e, RT.reA A d g.1 r, RE.reO A g.2 q, rfl⟩
theorem hands_ok : ∀ {as : List AV} {vs : List V} {ρ ρ' : List (Option D)} {ds : List D} {c : Cn}, RE E ρ σ c → AVRs σ E as vs → hands as ρ = some (ds, ρ') → ∃ ca c', RE E (ds.map some) (vs.map some) ca ∧ RE E ρ' σ c' ∧ c = cadd ca c'
  | [], vs, ρ, ρ', ds, c, re, av, h => by
    simp only [hands] at h
    cases h
    have e : vs = [] := av
    subst e
    exact ⟨cz, c, ⟨rfl, rfl⟩, re, (cadd_lz c).symm⟩
  | .val d :: as, vs, ρ, ρ', ds, c, re, av, h => by
    obtain ⟨v, vs', rfl, r, av⟩ := av
    simp only [hands, Option.map_eq_some_iff] at h
    obtain ⟨⟨ds', ρ''⟩, h, e⟩ := h
    cases e
    obtain ⟨ca, c', h1, h2, rfl⟩ := hands_ok re av h
    refine ⟨cadd cz ca, c', ?_, h2, by rw [cadd_lz]⟩
    simp only [List.map_cons, RE]
    exact ⟨v, _, cz, ca, rfl, r.2, h1, rfl⟩
  | .sl i :: as, vs, ρ, ρ', ds, c, re, av, h => by
    obtain ⟨v, vs', rfl, r, av⟩ := av
    simp only [hands] at h
    split at h
    · rename_i d e1
      simp only [Option.map_eq_some_iff] at h
      obtain ⟨⟨ds', ρ''⟩, h, e⟩ := h
      cases e
      obtain ⟨v', cd, c1, e2, rd, rfl, re'⟩ := re.at e1
      have e3 : σ[i]? = some (some v) := r.2
      rw [e2] at e3
      cases e3
      obtain ⟨ca, c', h1, h2, rfl⟩ := hands_ok re' av h
      refine ⟨cadd cd ca, c', ?_, h2, by rw [cadd_assoc]⟩
      simp only [List.map_cons, RE]
      exact ⟨_, _, cd, ca, rfl, rd, h1, rfl⟩
    · cases h
theorem backs_ok {E0 : Hw} : ∀ {as : List AV} {vs : List V} {ρ ρ' : List (Option D)} {ps : List (Option D)} {c cp : Cn}, RE E ρ σ c → AVRs σ E0 as vs → RE E ps (vs.map some) cp → backs as ps ρ = some ρ' → ∃ c', RE E ρ' σ c' ∧ ∀ p, c' p ≤ c p + cp p
  | [], vs, ρ, ρ', ps, c, cp, re, av, rp, h => by
    simp only [backs] at h
    cases h
    exact ⟨c, re, fun p => by omega⟩
  | .val d :: as, vs, ρ, ρ', ps, c, cp, re, av, rp, h => by
    obtain ⟨v, vs', rfl, r, av⟩ := av
    cases ps with
    | nil => simp [backs] at h
    | cons q ps =>
      simp only [backs] at h
      have key : ∃ cp', RE E ps (vs'.map some) cp' ∧ ∀ p, cp' p ≤ cp p := by
        cases q with
        | none =>
          simp only [List.map_cons, RE] at rp
          obtain ⟨x, σ', e, rp⟩ := rp
          cases e
          exact ⟨cp, rp, fun p => Nat.le_refl _⟩
        | some d' =>
          simp only [List.map_cons, RE] at rp
          obtain ⟨x, σ', c1, c2, e, _, rp, rfl⟩ := rp
          cases e
          exact ⟨c2, rp, fun p => by simp only [cadd]; omega⟩
      obtain ⟨cp', rp', le⟩ := key
      obtain ⟨c', h1, h2⟩ := backs_ok re av rp' h
      exact ⟨c', h1, fun p => by have := h2 p; have := le p; omega⟩
  | .sl i :: as, vs, ρ, ρ', ps, c, cp, re, av, rp, h => by
    obtain ⟨v, vs', rfl, r, av⟩ := av
    cases ps with
    | nil => simp [backs] at h
    | cons q ps =>
      cases q with
      | none => simp [backs] at h
      | some d =>
        simp only [backs] at h
        split at h
        · rename_i e1
          simp only [List.map_cons, RE] at rp
          obtain ⟨x, σ', c1, c2, e, rd, rp, rfl⟩ := rp
          cases e
          have re2 := RE.put re e1 rd
          have es : σ.set i (some v) = σ := by
            have e2 : σ[i]? = some (some v) := r.2
            apply List.ext_getElem?
            intro j
            by_cases y : j = i
            · subst y; rw [List.getElem?_set_self (List.getElem?_eq_some_iff.mp e2).1]; exact e2.symm
            · rw [List.getElem?_set_ne (Ne.symm y)]
          rw [es] at re2
          obtain ⟨c', h1, h2⟩ := backs_ok re2 av rp h
          exact ⟨c', h1, fun p => by have := h2 p; simp only [cadd] at this ⊢; omega⟩
        · cases h
end
section
variable {X : Cx} {ct : CT} {W : WX} {T : Tab} {e : Expr} {f : Nat} {n : Nat}
theorem callM_some {as : List AV} {s : VS} {r : Res D} (h : callM T f as s = some r) : ∃ ds ρ μ r', hands as s.ρ = some (ds, ρ) ∧ T.call f ds μ = some r' := by
  unfold callM at h
  cases q : hands as s.ρ with
  | none => rw [q] at h; cases h
  | some p =>
    obtain ⟨ds, ρ⟩ := p
    rw [q] at h
    simp only at h
    split at h
    · cases q2 : T.call f ds [] with
      | none => rw [q2] at h; cases h
      | some r' => exact ⟨ds, ρ, [], r', rfl, q2⟩
    · cases q2 : T.call f ds s.μ with
      | none => rw [q2] at h; cases h
      | some r' => exact ⟨ds, ρ, s.μ, r', rfl, q2⟩
theorem call_ok {σ : L2.St} {E : Hw} {s : VS} {ce : Cn} {Q : VK} {as : List AV} {vs : List V} (hn : ∀ ds μ r, T.call f ds μ = some r → ds.length = n) (eK : E.K = X.K) (ec : E.ct = ct) (w : Wd E σ s ce) (av : AVRs σ E as vs) (h : RA W RT' (callM T f as) σ E s ce Q) :
    spV X.K ct n (T.call f) vs E.H Q (fun cls d H => W cls d σ H) := by
  obtain ⟨c1, c2, re, rm, t, fz⟩ := w.own
  unfold RA at h
  have hn : vs.length = n := by
    cases q : callM T f as s with
    | none => rw [q] at h; exact h.elim
    | some r =>
      obtain ⟨ds, ρ, μ, r', h1, h2⟩ := callM_some q
      obtain ⟨ca, c1', ra, _⟩ := hands_ok re av h1
      have := ra.length
      rw [List.length_map, List.length_map] at this
      rw [← this]
      exact hn ds μ r' h2
  cases hh : hands as s.ρ with
  | none => simp only [callM, hh] at h
  | some p =>
    obtain ⟨ds, ρ⟩ := p
    obtain ⟨ca, c1', ra, re', rfl⟩ := hands_ok re av hh
    have domA : ∀ p, ca p ≠ 0 → E.H p ≠ none := RE.dom ra
    have domR : ∀ p, c1' p ≠ 0 → E.H p ≠ none := RE.dom re'
    have domM : ∀ p, c2 p ≠ 0 → E.H p ≠ none := RM.dom rm
    simp only [cadd] at t fz
    by_cases g : noRefs ds = true
    · -- closed
      refine ⟨{ E with A := [] }, ds, [], cadd ce (cadd c1' c2), eK, ec, rfl, hn, ⟨w.same, ⟨ca, cz, RE.reA [] g ra, ⟨rfl, rfl⟩, fun p => by have := t p; simp only [cadd, cz]; omega, fun p z => fz p (by simp only [cadd, cz] at z; omega)⟩, fun p z => ?_⟩, ?_⟩
      · by_cases y1 : ce p = 0
        · by_cases y2 : c1' p = 0
          · exact domM p (by simp only [cadd] at z; omega)
          · exact domR p y2
        · exact w.ex p y1
      · have up : ∀ {E' : Hw} {c' : Cn}, Step { E with A := [] } (cadd ce (cadd c1' c2)) E' → (∀ p, c' p ≠ 0 → cadd ce (cadd c1' c2) p ≠ 0) → Step E c' { E' with A := E.A } := fun st hc => ⟨st.k, st.ct, st.f, ⟨[], by simp⟩, fun a o z q => st.h a o (hc a z) q⟩
        cases hc : T.call f ds [] with
        | none => simp only [callM, hh, g, if_true, hc] at h
        | some r =>
          cases r with
          | ok d ps μ =>
            cases μ with
            | cons r0 μ =>
              simp only [callM, hh, g, if_true, hc] at h
              by_cases gd : (noRef d && noRefO ps) = true
              · rw [if_pos gd] at h
                rw [Bool.and_eq_true] at gd
                cases hb : backs as ps ρ with
                | none => simp only [hb] at h; exact h.elim
                | some ρ2 =>
                  simp only [hb, Option.map_some] at h
                  intro v E' c st rt w'
                  obtain ⟨cp, cm, rp, rmm, t', fz'⟩ := w'.own
                  obtain ⟨c3, r3, le3⟩ := backs_ok (RE.mono (up st fun p z => by simp only [cadd]; omega) re') av (RE.reO E.A gd.2 rp) hb
                  refine h v { E' with A := E.A } c (up st fun p z => by simp only [cadd]; omega) (RT.reA E.A d gd.1 rt) ⟨w'.same, ⟨c3, c2, r3, RM.mono (up st fun p z => by simp only [cadd]; omega) rm, fun p => ?_, fun p z => ?_⟩, fun p z => ?_⟩
                  · have := t' p
                    have := le3 p
                    simp only [cadd] at *
                    omega
                  · refine fz' p ?_
                    have := le3 p
                    simp only [cadd] at *
                    omega
                  · refine w'.ex p ?_
                    simp only [cadd] at *
                    omega
              · rw [if_neg gd] at h
                exact h.elim
            | nil =>
              cases hb : backs as ps ρ with
              | none => simp only [callM, hh, g, if_true, hc, hb] at h; exact h.elim
              | some ρ2 =>
                simp only [callM, hh, g, if_true, hc, hb, Option.map_some] at h
                intro v E' c st rt w'
                obtain ⟨cp, cm, rp, rmm, t', fz'⟩ := w'.own
                obtain ⟨eA, rfl⟩ : E'.A = [] ∧ cm = cz := rmm
                have sE : Step E' c { E' with A := E.A } := ⟨rfl, rfl, fun _ _ h => h, ⟨E.A, by rw [eA]; rfl⟩, fun _ _ _ h => h⟩
                have sp : ∀ c, Step E' c { E' with A := E.A } := fun c => ⟨rfl, rfl, fun _ _ h => h, ⟨E.A, by rw [eA]; rfl⟩, fun _ _ _ h => h⟩
                obtain ⟨c3, r3, le3⟩ := backs_ok (RE.mono (up st fun p z => by simp only [cadd]; omega) re') av (RE.mono (sp _) rp) hb
                refine h v { E' with A := E.A } c (up st fun p z => by simp only [cadd]; omega) (RT.mono d sE rt) ⟨w'.same, ⟨c3, c2, r3, RM.mono (up st fun p z => by simp only [cadd]; omega) rm, fun p => ?_, fun p z => ?_⟩, fun p z => ?_⟩
                · have := t' p
                  have := le3 p
                  simp only [cadd, cz] at this ⊢
                  simp only [cadd, cz] at *
                  omega
                · refine fz' p ?_
                  have := le3 p
                  simp only [cadd, cz] at *
                  omega
                · refine w'.ex p ?_
                  simp only [cadd] at *
                  omega
          | ex x ps μ =>
            cases μ with
            | cons r0 μ =>
              simp only [callM, hh, g, if_true, hc] at h
              by_cases gd : (noRefs x.ds && noRefO ps) = true
              · rw [if_pos gd] at h
                rw [Bool.and_eq_true] at gd
                cases hb : backs as ps ρ with
                | none => simp only [hb] at h; exact h.elim
                | some ρ2 =>
                  simp only [hb, Option.map_some] at h
                  intro cls d E' st rt w'
                  obtain ⟨cp, cm, rp, rmm, t', fz'⟩ := w'.own
                  obtain ⟨c3, r3, le3⟩ := backs_ok (RE.mono (up st fun p z => by simp only [cadd]; omega) re') av (RE.reO E.A gd.2 rp) hb
                  refine h cls d { E' with A := E.A } (up st fun p z => by simp only [cadd]; omega) ⟨rt.1, ?_⟩ ⟨w'.same, ⟨c3, c2, r3, RM.mono (up st fun p z => by simp only [cadd]; omega) rm, fun p => ?_, fun p z => ?_⟩, fun p z => ?_⟩
                  · obtain ⟨fs, q2, q3, q4⟩ := rt.2
                    exact ⟨fs, q2, q3, RTs.reA E.A _ gd.1 q4⟩
                  · have := t' p
                    have := le3 p
                    simp only [cadd] at *
                    omega
                  · refine fz' p ?_
                    have := le3 p
                    simp only [cadd] at *
                    omega
                  · refine w'.ex p ?_
                    simp only [cadd] at *
                    omega
              · rw [if_neg gd] at h
                exact h.elim
            | nil =>
              cases hb : backs as ps ρ with
              | none => simp only [callM, hh, g, if_true, hc, hb] at h; exact h.elim
              | some ρ2 =>
                simp only [callM, hh, g, if_true, hc, hb, Option.map_some] at h
                intro cls d E' st rt w'
                obtain ⟨cp, cm, rp, rmm, t', fz'⟩ := w'.own
                obtain ⟨eA, rfl⟩ : E'.A = [] ∧ cm = cz := rmm
                have sp : ∀ c, Step E' c { E' with A := E.A } := fun c => ⟨rfl, rfl, fun _ _ h => h, ⟨E.A, by rw [eA]; rfl⟩, fun _ _ _ h => h⟩
                obtain ⟨c3, r3, le3⟩ := backs_ok (RE.mono (up st fun p z => by simp only [cadd]; omega) re') av (RE.mono (sp _) rp) hb
                refine h cls d { E' with A := E.A } (up st fun p z => by simp only [cadd]; omega) ⟨rt.1, ?_⟩ ⟨w'.same, ⟨c3, c2, r3, RM.mono (up st fun p z => by simp only [cadd]; omega) rm, fun p => ?_, fun p z => ?_⟩, fun p z => ?_⟩
                · obtain ⟨fs, q2, q3, q4⟩ := rt.2
                  exact ⟨fs, q2, q3, RTs.mono _ (sp _) q4⟩
                · have := t' p
                  have := le3 p
                  simp only [cadd, cz] at *
                  omega
                · refine fz' p ?_
                  have := le3 p
                  simp only [cadd, cz] at *
                  omega
                · refine w'.ex p ?_
                  simp only [cadd] at *
                  omega
    · -- open
      refine ⟨E, ds, s.μ, cadd ce c1', eK, ec, rfl, hn, ⟨w.same, ⟨ca, c2, ra, rm, fun p => by have := t p; simp only [cadd]; omega, fun p z => fz p (by simp only [cadd] at z; omega)⟩, fun p z => ?_⟩, ?_⟩
      · by_cases y1 : ce p = 0
        · exact domR p (by simp only [cadd] at z; omega)
        · exact w.ex p y1
      · have gf : noRefs ds = false := by simpa using g
        cases hc : T.call f ds s.μ with
        | none => simp only [callM, hh, gf, hc] at h; exact h.elim
        | some r =>
          cases r with
          | ok d ps μ =>
            cases hb : backs as ps ρ with
            | none => simp only [callM, hh, gf, hc, hb] at h; exact h.elim
            | some ρ2 =>
              simp only [callM, hh, gf, hc, hb, Option.map_some] at h
              intro v E' c st rt w'
              obtain ⟨cp, cm, rp, rmm, t', fz'⟩ := w'.own
              obtain ⟨c3, r3, le3⟩ := backs_ok (RE.mono (st.less fun p z => by simp only [cadd]; omega) re') av rp hb
              refine h v E' c (st.less fun p z => by simp only [cadd]; omega) rt ⟨w'.same, ⟨c3, cm, r3, rmm, fun p => ?_, fun p z => ?_⟩, fun p z => ?_⟩
              · have := t' p
                have := le3 p
                simp only [cadd] at *
                omega
              · refine fz' p ?_
                have := le3 p
                simp only [cadd] at *
                omega
              · refine w'.ex p ?_
                simp only [cadd] at *
                omega
          | ex x ps μ =>
            cases hb : backs as ps ρ with
            | none => simp only [callM, hh, gf, hc, hb] at h; exact h.elim
            | some ρ2 =>
              simp only [callM, hh, gf, hc, hb, Option.map_some] at h
              intro cls d E' st rt w'
              obtain ⟨cp, cm, rp, rmm, t', fz'⟩ := w'.own
              obtain ⟨c3, r3, le3⟩ := backs_ok (RE.mono (st.less fun p z => by simp only [cadd]; omega) re') av rp hb
              refine h cls d E' (st.less fun p z => by simp only [cadd]; omega) rt ⟨w'.same, ⟨c3, cm, r3, rmm, fun p => ?_, fun p z => ?_⟩, fun p z => ?_⟩
              · have := t' p
                have := le3 p
                simp only [cadd] at *
                omega
              · refine fz' p ?_
                have := le3 p
                simp only [cadd] at *
                omega
              · refine w'.ex p ?_
                simp only [cadd] at *
                omega
end
end VI
namespace VI
open PySem L2 PyProof.Rows
def Df (X : Cx) (ct : CT) (T : Tab) (f : Nat) (fa : Addr) (n : Nat) : Prop :=
  ∃ (k : Nat) (fd : FuncData) (ps : List Str), FnOk X.prog X.w X.K X.mg X.base (L2.CX X.prog X.w) k fa fd ps (spV X.K ct n (T.call f)) ∧ (∀ ds μ r, T.call f ds μ = some r → ds.length = n) ∧ Room k X.A ∧ PySem.W.keepIn X.K (.ref fa) = true ∧ Binds X.K fd ps []
section
variable {X : Cx} {ct : CT} {W : WX} {T : Tab} {e a b o : Expr} {es : List Expr} {c ca q : Ex} {cs : List Ex} {f : Nat} {x m C : Str} {fa : Addr} {n : Nat} {p pos apos : Pos}
def PGs (X : Cx) (ct : CT) (W : WX) (T : Tab) (es : List Expr) (cs : List Ex) : Prop := PA X es (tGs X ct W T cs)
theorem pgs_nil : PGs X ct W T [] [] := pa_nil
theorem pgs_cons (h : PG1 X ct W T e c) (hr : PGs X ct W T es cs) (hs : starEach (e :: es) X.env = (false, eval e X.env) :: starEach es X.env := by rfl) : PGs X ct W T (e :: es) (c :: cs) := pa_cons h hr hs
def PFs (X : Cx) (ct : CT) (W : WX) (T : Tab) (es : List Expr) (cs : List Ex) : Prop := PA X es (tFs X ct W T cs)
theorem pfs_nil : PFs X ct W T [] [] := pa_nil
theorem pfs_cons (h : PV X ct W T e c) (hr : PFs X ct W T es cs) (hs : starEach (e :: es) X.env = (false, eval e X.env) :: starEach es X.env := by rfl) : PFs X ct W T (e :: es) (c :: cs) := pa_cons (pf_of h) hr hs
theorem g_lst (h : PFs X ct W T es cs) : PV X ct W T (.List es pos) (.lst cs) := pv_lst (pe_lst h)
theorem g_call (F : Df X ct T f fa n) (tk : Takes X W) (hg : Gl X x) (hm : X.mg x = some (.ref fa)) (ha : PGs X ct W T (e :: es) (c :: cs)) (hdb : (x == ("__debug__" : Str)) = false := by decide)
    (he : starEach (e :: es) X.env = (false, eval e X.env) :: starEach es X.env := by rfl) (hpl : (backTo pos (starEach es X.env)).any (·.1) = false := by rfl) : PV X ct W T (.Call (.Name x p) (e :: es) [] pos) (.call f (c :: cs)) := by
  obtain ⟨k, fd, ps, F, hn, hr, hk, hb⟩ := F
  refine PE.weak (pe_callSD (dvs := []) F hr hg hm hk hb .nil (fun σ => passAt tk σ) ha hdb he hpl) fun σ H Q z => ?_
  obtain ⟨E, s, ce, eK, ec, rfl, w, z⟩ := z
  simp only [ev] at z
  refine tGs_ok eK ec w (z.bnd fun vas vs E1 s1 c1 st r w1 z1 => ?_)
  have ecz : c1 = cz := r.1
  subst ecz
  rw [List.append_nil]
  exact call_ok hn (st.k.trans eK) (st.ct.trans ec) w1 r.2 z1
theorem lookup_no {m : Str} : ∀ {fs : List (Str × V)}, (fs.map (·.1)).all (fun x => decide (x ≠ m)) = true → fs.lookup m = none
  | [], _ => rfl
  | (x, v) :: fs, h => by
    simp only [List.map_cons, List.all_cons, Bool.and_eq_true, decide_eq_true_eq] at h
    rw [List.lookup_cons, show (m == x) = false from beq_eq_false_iff_ne.mpr fun z => h.1 z.symm]
    exact lookup_no h.2
theorem isObj_ok {E : Hw} {σ : L2.St} {s : VS} {ce : Cn} {d : D} {v : V} {c : Cn} (w : Wd E σ s ce) (r : RT E d v c) (h : isObjD C m s d = true) : ∃ a dx fs, v = .ref a ∧ E.H a = some (.ins (E.ct C) dx fs) ∧ fs.lookup m = none := by
  unfold isObjD at h
  split at h
  · rename_i k
    simp only [RT] at r
    obtain ⟨_, a, rfl, ea⟩ := r
    split at h
    · rename_i r0 er
      rw [Bool.and_eq_true, decide_eq_true_eq] at h
      obtain ⟨c1, c2, _, rm, _⟩ := w.own
      obtain ⟨dx, fs, c3, hh, hk, ht⟩ := rm.at er ea
      rw [h.1] at hh
      exact ⟨a, dx, fs, rfl, hh, lookup_no (by rw [hk]; exact h.2)⟩
    · cases h
  · rename_i C' fn ds
    simp only [RT] at r
    obtain ⟨_, a, dx, fs, rfl, ha, hk, ht⟩ := r
    rw [Bool.and_eq_true, decide_eq_true_eq] at h
    rw [h.1] at ha
    exact ⟨a, dx, fs, rfl, w.same _ _ ha, lookup_no (by rw [hk]; exact h.2)⟩
  · cases h
theorem meth_ok {σ : L2.St} {H : Hp} {Q : VK} (hn : ∀ ds μ r, T.call f ds μ = some r → ds.length = n) (z : tV X ct W T (.meth C m f q cs) σ H Q) (R : V → Hp → Prop)
    (k : ∀ (v : V) (E : Hw) (s : VS) (ce : Cn) (d : D), E.K = X.K → E.ct = ct → Wd E σ s ce → RT E d v cz → (∃ a dx fs, v = .ref a ∧ E.H a = some (.ins (ct C) dx fs) ∧ fs.lookup m = none) →
      RA W RT' ((evG T cs).bnd fun vs => callM T f (.val d :: vs)) σ E s ce Q → R v E.H) : tQ X ct T q σ H R := by
  obtain ⟨E, s, ce, eK, rfl, rfl, w, z⟩ := z
  have e0 : ev T (.meth C m f q cs) s = match evq T s q with
    | some d => if isObjD C m s d && allF d then ((evG T cs).bnd fun vs => callM T f (.val d :: vs)) s else none
    | none => none := by
    simp only [ev]
    all_goals (cases evq T s q <;> rfl)
  cases g : evq T s q with
  | none => rw [g] at e0; rw [RA.non e0] at z; exact z.elim
  | some d =>
    rw [g] at e0
    refine ⟨E, s, ce, d, eK, rfl, rfl, w, g, fun v cc r => ?_⟩
    by_cases h : (isObjD C m s d && allF d) = true
    · have e1 := e0.trans (if_pos h)
      rw [Bool.and_eq_true] at h
      have ecz := RT.allF d r h.2
      subst ecz
      exact k v E s ce d eK rfl w r (isObj_ok w r h.1) (RA.eq e1 z)
    · rw [RA.non (e0.trans (if_neg h))] at z
      exact z.elim
end
end VI
namespace VI
open PySem L2 PyProof.Rows
section
variable {X : Cx} {ct : CT} {W : WX} {T : Tab} {e a b o : Expr} {es : List Expr} {c ca q : Ex} {cs : List Ex} {f : Nat} {x m C : Str} {fa : Addr} {n : Nat} {p pos apos : Pos}
theorem RTs.re {E : Hw} : ∀ {ds : List D} {vs : List V} {c : Cn}, RTs E ds vs c → RE E (ds.map some) (vs.map some) c
  | [], _, _, h => by simp only [RTs] at h; obtain ⟨rfl, rfl⟩ := h; exact ⟨rfl, rfl⟩
  | d :: ds, _, _, h => by
    simp only [RTs] at h
    obtain ⟨v, vs', c1, c2, rfl, r, q, rfl⟩ := h
    simp only [List.map_cons, RE]
    exact ⟨v, _, c1, c2, rfl, r, q.re, rfl⟩
end
end VI
namespace VI
open PySem L2 PyProof.Rows
section
variable {E : Hw} {σ : L2.St} {s : VS} {ce : Cn} {i : Nat}
theorem set_self {σ : L2.St} {i : Nat} {v : V} (e2 : σ[i]? = some (some v)) : σ.set i (some v) = σ := by
  apply List.ext_getElem?
  intro j
  by_cases y : j = i
  · subst y; rw [List.getElem?_set_self (List.getElem?_eq_some_iff.mp e2).1]; exact e2.symm
  · rw [List.getElem?_set_ne (Ne.symm y)]
theorem Wd.wr {d0 : D} (w : Wd E σ s ce) (e : s.ρ[i]? = some (some d0)) : ∃ v cd, σ[i]? = some (some v) ∧ RT E d0 v cd ∧ (∀ p, cd p + ce p ≤ 1) ∧ (∀ p, cd p ≠ 0 → E.F p = none) ∧
    ∀ (E' : Hw) (d1 : D) (cd' : Cn), E'.K = E.K → E'.ct = E.ct → E'.A = E.A → E'.F = E.F → (∀ p o, cd p = 0 → E.H p = some o → E'.H p = some o) → (∀ p, cd' p ≤ cd p) → RT E' d1 v cd' →
      Step E ce E' ∧ Wd E' σ ⟨s.ρ.set i (some d1), s.μ⟩ ce := by
  obtain ⟨c1, c2, re, rm, t, f⟩ := w.own
  obtain ⟨v, cd, c1', e2, r, rfl, re'⟩ := re.at e
  simp only [cadd] at t f
  refine ⟨v, cd, e2, r, fun p => by have := t p; omega, fun p z => f p (by omega), fun E' d1 cd' hK hc hA hF hH le r1 => ?_⟩
  have st : ∀ c, (∀ p, c p ≠ 0 → cd p = 0) → Step E c E' := fun c hc' => ⟨hK, hc, fun a o z => by rw [hF]; exact z, ⟨[], by rw [hA]; simp⟩, fun a o z q => hH a o (hc' a z) q⟩
  have il : i < s.ρ.length := (List.getElem?_eq_some_iff.mp e).1
  refine ⟨st ce fun p z => by have := t p; omega, ⟨fun p o z => ?_, ⟨cadd cd' c1', c2, ?_, by rw [hA]; exact RM.mono (st _ fun p z => by have := t p; omega) rm, fun p => by have := t p; have := le p; simp only [cadd]; omega, fun p z => by rw [hF]; exact f p (by have := le p; simp only [cadd] at z; omega)⟩, fun p z => ?_⟩⟩
  · rw [hF] at z
    refine hH p o ?_ (w.same p o z)
    by_cases y : cd p = 0
    · exact y
    · rw [f p (by omega)] at z; cases z
  · have q := RE.put (i := i) (d := d1) (v := v) (RE.mono (st c1' fun p z => by have := t p; omega) re') (by simp [il]) r1
    rw [set_self e2, List.set_set] at q
    exact q
  · have y := w.ex p z
    cases q : E.H p with
    | none => exact absurd q y
    | some o =>
      rw [hH p o (by have := t p; omega) q]
      exact fun h => nomatch h
theorem rts_snoc : ∀ {ds : List D} {vs : List V} {c : Cn} {d : D} {v : V}, RTs E ds vs c → RT E d v cz → RTs E (ds ++ [d]) (vs ++ [v]) c
  | [], _, _, d, v, h, r => by
    simp only [RTs] at h
    obtain ⟨rfl, rfl⟩ := h
    simp only [List.nil_append, RTs]
    exact ⟨v, [], cz, cz, rfl, r, ⟨rfl, rfl⟩, rfl⟩
  | d0 :: ds, _, _, d, v, h, r => by
    simp only [RTs] at h
    obtain ⟨v0, vs', c1, c2, rfl, r0, q, rfl⟩ := h
    simp only [List.cons_append, RTs]
    exact ⟨v0, vs' ++ [v], c1, c2, rfl, r0, rts_snoc q r, rfl⟩
theorem rts_set : ∀ {ds : List D} {vs : List V} {c : Cn} (k : Nat) {d : D} {v : V}, RTs E ds vs c → RT E d v cz → ∃ c', RTs E (ds.set k d) (vs.set k v) c' ∧ ∀ p, c' p ≤ c p
  | [], _, _, _, _, _, h, _ => by
    simp only [RTs] at h
    obtain ⟨rfl, rfl⟩ := h
    exact ⟨cz, by simp [RTs], fun p => Nat.le_refl _⟩
  | d0 :: ds, _, _, 0, d, v, h, r => by
    simp only [RTs] at h
    obtain ⟨v0, vs', c1, c2, rfl, r0, q, rfl⟩ := h
    refine ⟨cadd cz c2, ?_, fun p => by simp only [cadd, cz]; omega⟩
    simp only [List.set_cons_zero, RTs]
    exact ⟨v, vs', cz, c2, rfl, r, q, rfl⟩
  | d0 :: ds, _, _, k + 1, d, v, h, r => by
    simp only [RTs] at h
    obtain ⟨v0, vs', c1, c2, rfl, r0, q, rfl⟩ := h
    obtain ⟨c', q', le⟩ := rts_set k q r
    refine ⟨cadd c1 c', ?_, fun p => by have := le p; simp only [cadd]; omega⟩
    simp only [List.set_cons_succ, RTs]
    exact ⟨v0, _, c1, c', rfl, r0, q', rfl⟩
theorem Wd.wlst {xs : List D} (w : Wd E σ s ce) (e : s.ρ[i]? = some (some (.lst true xs))) : ∃ a vs c', σ[i]? = some (some (.ref a)) ∧ E.H a = some (.lst vs) ∧ RTs E xs vs c' ∧
    ∀ ys ws c'', RTs E ys ws c'' → (∀ p, c'' p ≤ c' p) → Step E ce { E with H := upd E.H a (.lst ws) } ∧ Wd { E with H := upd E.H a (.lst ws) } σ ⟨s.ρ.set i (some (.lst true ys)), s.μ⟩ ce ∧
      ∀ d v, RT E d v cz → RT { E with H := upd E.H a (.lst ws) } d v cz := by
  obtain ⟨v, cd, e2, r, t, f, k⟩ := w.wr e
  simp only [RT] at r
  obtain ⟨a, vs, c', rfl, q, rt, rfl⟩ := r
  refine ⟨a, vs, c', e2, q, rt, fun ys ws c'' ry le => ?_⟩
  have hs : ∀ c : Cn, c a = 0 → Step E c { E with H := upd E.H a (.lst ws) } := fun c hc => ⟨rfl, rfl, fun _ _ h => h, ⟨[], by simp⟩, fun b o z y => by
    show upd E.H a (.lst ws) b = some o
    rw [upd_ne (fun e => z (by rw [e]; exact hc))]
    exact y⟩
  have ta := t a
  simp only [cadd, one] at ta
  have ca : c' a = 0 := by simp at ta; omega
  obtain ⟨st, wd⟩ := k { E with H := upd E.H a (.lst ws) } (.lst true ys) (cadd (one a) c'') rfl rfl rfl rfl (fun p o z y => by
    show upd E.H a (.lst ws) p = some o
    rw [upd_ne (fun e => by rw [e] at z; simp [cadd, one] at z)]
    exact y) (fun p => by have := le p; simp only [cadd]; omega) (by
      simp only [RT]
      exact ⟨a, ws, c'', rfl, upd_same, RTs.mono ys (hs c'' (by have := le a; omega)) ry, rfl⟩)
  exact ⟨st, wd, fun d v r => RT.mono d (hs cz rfl) r⟩
end
section
variable {X : Cx} {ct : CT} {W : WX} {T : Tab} {e a b o : Expr} {es : List Expr} {c ca q : Ex} {cs : List Ex} {i : Nat} {p pos apos : Pos} {m : Mp}
theorem mt_run {σ : L2.St} {H : Hp} {Q : VK} (z : tV X ct W T (.mt m (.var i) cs) σ H Q) : ∃ v, σ[i]? = some (some v) ∧ (∃ (E : Hw) (o : D) (c : Cn), E.H = H ∧ (∀ a o, E.F a = some o → E.H a = some o) ∧ RT E o v c ∧ m.kind o = true) ∧
    tFs X ct W T cs σ H fun vs H2 => ∃ (E : Hw) (s : VS) (ce : Cn) (o : D) (ds : List D) (o' d : D), E.H = H2 ∧ Wd E σ s ce ∧ s.ρ[i]? = some (some o) ∧ RTs E ds vs cz ∧ m.fn o ds = some (o', d) ∧
      ∀ (v' : V) (E' : Hw), Step E ce E' → RT E' d v' cz → Wd E' σ ⟨s.ρ.set i (some o'), s.μ⟩ ce → Q v' E'.H := by
  obtain ⟨E, s, ce, eK, ec, rfl, w, z⟩ := z
  cases e1 : s.ρ[i]? with
  | none => rw [RA.non (by simp only [ev, e1])] at z; exact z.elim
  | some oo =>
    cases oo with
    | none => rw [RA.non (by simp only [ev, e1])] at z; exact z.elim
    | some o0 =>
      by_cases hk : m.kind o0 = true
      · have z : RA W RT' ((evs T cs).bnd fun ds s => match s.ρ[i]? with
          | some (some o) => (m.fn o ds).map fun (o', d) => .ok d ⟨s.ρ.set i (some o'), s.μ⟩
          | _ => none) σ E s ce Q := RA.eq (by simp only [ev, e1, hk, if_true]; all_goals rfl) z
        obtain ⟨c1, c2, re, _⟩ := w.own
        obtain ⟨v, cc, e2, r⟩ := re.val e1
        refine ⟨v, e2, ⟨E, o0, cc, rfl, w.same, r, hk⟩, tFs_ok eK ec w (z.bnd fun ds vs E1 s1 c st r1 w1 z1 => ?_)⟩
        have ecz : c = cz := r1.1
        subst ecz
        cases e3 : s1.ρ[i]? with
        | none => rw [RA.non (by simp only [e3])] at z1; exact z1.elim
        | some oo =>
          cases oo with
          | none => rw [RA.non (by simp only [e3])] at z1; exact z1.elim
          | some o =>
            cases hf : m.fn o ds with
            | none => rw [RA.non (by simp only [e3, hf]; rfl)] at z1; exact z1.elim
            | some r =>
              obtain ⟨o', d⟩ := r
              rw [RA.ok (a := d) (s' := ⟨s1.ρ.set i (some o'), s1.μ⟩) (by simp only [e3, hf]; rfl)] at z1
              exact ⟨E1, s1, ce, o, ds, o', d, rfl, w1, e3, r1.2, hf, fun v' E' st' r' w' => z1 v' E' cz st' r' w'⟩
      · rw [RA.non (by simp only [ev, e1, hk]; rfl)] at z
        exact z.elim
theorem ty_list {E : Hw} {o : D} {v : V} {c : Cn} {K : PySem.W.Frag} (hs : ∀ a o, E.F a = some o → E.H a = some o) (r : RT E o v c) (h : m.kind o = true) (hm : m ≠ .setd) (hn : m ≠ .setN := by decide) : tyV K "list" v E.H := by
  cases o <;> first | (cases m <;> first | (cases h; done) | exact absurd rfl hm | exact absurd rfl hn) | skip
  obtain ⟨a, vs, c', rfl, q, _⟩ := lst_at hs r
  exact .inl ⟨rfl, vs, .inl (.inl q)⟩
theorem mp_lst {m : Mp} {o : D} {ds : List D} {o' d : D} (hm : m ≠ .setd) (hn : m ≠ .setN := by decide) (h : Mp.fn m o ds = some (o', d)) : ∃ xs, o = .lst true xs := by
  cases o with
  | lst b xs =>
    cases b with
    | true => exact ⟨xs, rfl⟩
    | false => cases m <;> simp [Mp.fn] at h
  | dic b ks xs => cases m <;> simp [Mp.fn] at h; exact absurd rfl hm
  | dicN b ks xs => cases m <;> first | (simp [Mp.fn] at h; done) | exact absurd rfl hn
  | _ => cases m <;> simp [Mp.fn] at h
theorem mp_app {xs ds : List D} {o' d : D} (h : Mp.fn .app (.lst true xs) ds = some (o', d)) : ∃ d0, ds = [d0] ∧ xs.length < lim ∧ o' = .lst true (xs ++ [d0]) ∧ d = .non := by
  match ds, h with
  | [], h => simp [Mp.fn] at h
  | [d0], h =>
    simp only [Mp.fn] at h
    split at h
    · rename_i z
      cases h
      exact ⟨d0, rfl, z, rfl, rfl⟩
    · cases h
  | _ :: _ :: _, h => simp [Mp.fn] at h
theorem g_app (ho : PE X o (tVar i)) (ha : PV X ct W T a ca) (hbase : attributeBase o "append" X.env (eval o X.env) = eval o X.env := by rfl)
    (hfew : ((backTo pos (starEach [a] X.env)).all (fun x => !x.1) && (backToKw pos (keywordEach [] X.env)).all (fun x => x.1.isSome) && decide (([a] : List Expr).length + ([] : List Keyword).length + (if ([] : List Keyword).isEmpty then 0 else 1) < 30)) = true := by rfl)
    (hline : (apos.endLine == pos.line) = true := by rfl) (hst : starEach [a] X.env = (false, eval a X.env) :: starEach [] X.env := by rfl) (hplain : (backTo pos (starEach [] X.env)).any (·.1) = false := by rfl) :
    PV X ct W T (.Call (.Attribute o "append" apos) [a] [] pos) (.mt .app (.var i) [ca]) :=
  PE.weak (pe_bm PySem.F.plainAttrs_list PySem.F.slot_list_append PySem.F.type_list_append mt_append ho (pa_cons (pf_of ha) pa_nil hst) hbase hfew hline hst hplain) fun σ H Q z => by
    obtain ⟨v, e, ⟨E0, o0, c0, rfl, hs0, r0, hk⟩, q⟩ := mt_run z
    refine ⟨v, e, ty_list hs0 r0 hk (by decide), tFs_mono q fun vs H2 ⟨E, s, ce, o, ds, o', d, eH, w, e3, rd, hf, k⟩ => ?_⟩
    subst eH
    obtain ⟨xs, rfl⟩ := mp_lst (by decide) (h := hf)
    obtain ⟨d0, rfl, hl, rfl, rfl⟩ := mp_app hf
    obtain ⟨l, ys, c', e4, hH, rt, kk⟩ := w.wlst e3
    rw [e] at e4
    cases e4
    simp only [RTs] at rd
    obtain ⟨y, _, cy, c2, rfl, ry, ⟨rfl, rfl⟩, hz⟩ := rd
    obtain ⟨rfl, _⟩ := cadd_z hz
    obtain ⟨st, wd, _⟩ := kk (xs ++ [d0]) (ys ++ [y]) c' (rts_snoc rt ry) (fun p => Nat.le_refl _)
    exact ⟨l, ys, y, rfl, rfl, hH, by rw [← rt.length]; exact Nat.lt_of_lt_of_le hl (by decide), k .non _ st rt_non wd⟩
end
end VI
namespace VI
open PySem L2 PyProof.Rows
section
variable {E : Hw} {σ : L2.St} {s : VS} {ce : Cn}
theorem RE.agree {E : Hw} : ∀ {ρ : List (Option D)} {σ σ' : L2.St} {c : Cn}, RE E ρ σ c → σ'.length = σ.length → (∀ (i : Nat) (d : D), ρ[i]? = some (some d) → σ'[i]? = σ[i]?) → RE E ρ σ' c
  | [], _, σ', _, h, l, _ => by
    simp only [RE] at h ⊢
    obtain ⟨rfl, rfl⟩ := h
    exact ⟨List.length_eq_zero_iff.mp (by simpa using l), rfl⟩
  | none :: ρ, _, [], _, h, l, _ => by
    simp only [RE] at h
    obtain ⟨x, σ', rfl, _⟩ := h
    simp at l
  | none :: ρ, _, x' :: σ', _, h, l, a => by
    simp only [RE] at h ⊢
    obtain ⟨x, σ1, rfl, q⟩ := h
    exact ⟨x', σ', rfl, RE.agree q (by simpa using l) fun i d e => by simpa using a (i + 1) d (by simpa using e)⟩
  | some d0 :: ρ, _, [], _, h, l, _ => by
    simp only [RE] at h
    obtain ⟨v, σ', c1, c2, rfl, _⟩ := h
    simp at l
  | some d0 :: ρ, _, x' :: σ', _, h, l, a => by
    simp only [RE] at h ⊢
    obtain ⟨v, σ1, c1, c2, rfl, r, q, rfl⟩ := h
    have e := a 0 d0 rfl
    simp only [List.getElem?_cons_zero, Option.some.injEq] at e
    subst e
    exact ⟨v, σ', c1, c2, rfl, r, RE.agree q (by simpa using l) fun i d e => by simpa using a (i + 1) d (by simpa using e), rfl⟩
theorem RE.over {ρ : List (Option D)} {c c1 : Cn} {d : D} {v : V} (i : Nat) (re : RE E ρ σ c) (r : RT E d v c1) : ∃ c', (∀ p, c' p ≤ c p + c1 p) ∧ RE E (ρ.set i (some d)) (σ.set i (some v)) c' := by
  by_cases il : i < ρ.length
  · obtain ⟨c2, le, q⟩ := re.drop i
    have z := RE.put (i := i) q (by simp [il]) r
    rw [List.set_set] at z
    exact ⟨_, fun p => by have := le p; simp only [cadd]; omega, z⟩
  · rw [List.set_eq_of_length_le (by omega), List.set_eq_of_length_le (by have := re.length; omega)]
    exact ⟨c, fun p => by omega, re⟩
theorem Wd.over {c : Cn} {d : D} {v : V} (i : Nat) (w : Wd E σ s (cadd ce c)) (r : RT E d v c) : Wd E (σ.set i (some v)) ⟨s.ρ.set i (some d), s.μ⟩ ce := by
  obtain ⟨c1, c2, re, rm, t, f⟩ := w.own
  obtain ⟨c', le, q⟩ := re.over i r
  simp only [cadd] at t f
  exact ⟨w.same, ⟨c', c2, q, rm, fun p => by have := t p; have := le p; omega, fun p z => f p (by have := le p; omega)⟩, fun p z => w.ex p (by simp only [cadd]; omega)⟩
theorem wipe_get : ∀ {vs : List Nat} {σ : L2.St} {k : Nat}, (wipe σ vs)[k]? = if k ∈ vs then σ[k]?.map (fun _ => none) else σ[k]?
  | [], σ, k => by simp [wipe]
  | v :: vs, σ, k => by
    unfold wipe
    by_cases h : v = k
    · subst h
      rw [List.getElem?_set]
      simp only [if_true, wipe_length, List.mem_cons, true_or]
      by_cases l : v < σ.length
      · simp [l]
      · simp [l]
    · rw [List.getElem?_set_ne h, wipe_get]
      have : k ≠ v := fun e => h e.symm
      simp [this]
theorem wipeR_get : ∀ {vs : List Nat} {ρ : List (Option D)} {k : Nat}, (wipeR ρ vs)[k]? = if k ∈ vs then ρ[k]?.map (fun _ => none) else ρ[k]?
  | [], σ, k => by simp [wipeR]
  | v :: vs, σ, k => by
    have l0 : (wipeR σ vs).length = σ.length := by
      clear k
      induction vs with
      | nil => rfl
      | cons a l ih => simp only [wipeR, List.length_set]; exact ih
    unfold wipeR
    by_cases h : v = k
    · subst h
      rw [List.getElem?_set]
      simp only [if_true, l0, List.mem_cons, true_or]
      by_cases l : v < σ.length
      · simp [l]
      · simp [l]
    · rw [List.getElem?_set_ne h, wipeR_get]
      have : k ≠ v := fun e => h e.symm
      simp [this]
theorem wipe_wipe {σ : L2.St} {vs : List Nat} : wipe (wipe σ vs) vs = wipe σ vs := by
  apply List.ext_getElem?
  intro k
  simp only [wipe_get]
  split
  · cases σ[k]? <;> rfl
  · rfl
theorem wipeR_wipeR {ρ : List (Option D)} {vs : List Nat} : wipeR (wipeR ρ vs) vs = wipeR ρ vs := by
  apply List.ext_getElem?
  intro k
  simp only [wipeR_get]
  split
  · cases ρ[k]? <;> rfl
  · rfl
theorem RE.drops : ∀ {vs : List Nat} {ρ : List (Option D)} {c : Cn}, RE E ρ σ c → ∃ c', (∀ p, c' p ≤ c p) ∧ RE E (wipeR ρ vs) σ c'
  | [], _, c, h => ⟨c, fun _ => Nat.le_refl _, h⟩
  | v :: vs, _, c, h => by
    obtain ⟨c1, l1, h1⟩ := RE.drops (vs := vs) h
    obtain ⟨c2, l2, h2⟩ := h1.drop v
    exact ⟨c2, fun p => by have := l1 p; have := l2 p; omega, h2⟩
theorem Wd.agree {σ' : L2.St} (w : Wd E σ s ce) (l : σ'.length = σ.length) (h : ∀ (i : Nat) (d : D), s.ρ[i]? = some (some d) → σ'[i]? = σ[i]?) : Wd E σ' s ce := by
  obtain ⟨c1, c2, re, rm, t, f⟩ := w.own
  exact ⟨w.same, ⟨c1, c2, re.agree l h, rm, t, f⟩, w.ex⟩
theorem Wd.dropsR (w : Wd E σ s ce) (vs : List Nat) : Wd E σ ⟨wipeR s.ρ vs, s.μ⟩ ce := by
  obtain ⟨c1, c2, re, rm, t, f⟩ := w.own
  obtain ⟨c', le, q⟩ := re.drops (vs := vs)
  exact ⟨w.same, ⟨c', c2, q, rm, fun p => by have := t p; have := le p; omega, fun p z => f p (by have := le p; omega)⟩, w.ex⟩
theorem Wd.wipe (w : Wd E σ s ce) (vs : List Nat) : Wd E (L2.wipe σ vs) ⟨wipeR s.ρ vs, s.μ⟩ ce :=
  (w.dropsR vs).agree (L2.wipe_length σ vs) fun i d e => by
    rw [wipeR_get] at e
    rw [wipe_get]
    split at e
    · cases q : s.ρ[i]? with
      | none => rw [q] at e; cases e
      | some o => rw [q] at e; cases e
    · rename_i h; rw [if_neg h]
theorem Wd.unwipe {vs : List Nat} (w : Wd E (L2.wipe σ vs) ⟨wipeR s.ρ vs, s.μ⟩ ce) : Wd E σ ⟨wipeR s.ρ vs, s.μ⟩ ce :=
  w.agree (L2.wipe_length σ vs).symm fun i d e => by
    rw [wipe_get]
    have e : (wipeR s.ρ vs)[i]? = some (some d) := e
    rw [wipeR_get] at e
    split at e
    · cases q : s.ρ[i]? with
      | none => rw [q] at e; cases e
      | some o => rw [q] at e; cases e
    · rename_i h; rw [if_neg h]
end
def GB (K : PySem.W.Frag) (g : TG) (is : List Nat) : Prop :=
  ∀ (E : Hw) (σ : L2.St) (s : VS) (ce c : Cn) (d : D) (v : V) (ρ' : List (Option D)) (R : L2.St → Hp → Prop), E.K = K → Wd E σ s (cadd ce c) → RT E d v c → bindT is d s.ρ = some ρ' →
    (∀ σ', L2.wipe σ' is = L2.wipe σ is → Wd E σ' ⟨ρ', s.μ⟩ ce → R σ' E.H) → g v σ E.H R
theorem gb1 {K : PySem.W.Frag} {i : Nat} : GB K (gName i) [i] := fun E σ s ce c d v ρ' R eK w r hb k => by
  simp only [bindT] at hb
  cases hb
  refine k _ ?_ (w.over i r)
  simp [L2.wipe]
theorem wipe2 {σ : L2.St} {i j : Nat} {x y : Option V} : L2.wipe ((σ.set i x).set j y) [i, j] = L2.wipe σ [i, j] := by
  apply List.ext_getElem?
  intro k
  rw [wipe_get, wipe_get]
  split
  · simp only [List.getElem?_set, List.length_set]
    split <;> split <;> simp_all
    all_goals (try split) <;> simp_all
  · rename_i h
    simp only [List.mem_cons, List.not_mem_nil, or_false, not_or] at h
    rw [List.getElem?_set_ne (Ne.symm h.2), List.getElem?_set_ne (Ne.symm h.1)]
theorem gb2 {K : PySem.W.Frag} {i j : Nat} : GB K (gTup K 2 (gCons (gName i) (gCons (gName j) gNil))) [i, j] := fun E σ s ce c d v ρ' R eK w r hb k => by
  simp only [bindT] at hb
  split at hb
  · rename_i x y
    cases hb
    obtain ⟨a, vs, rfl, q, rt⟩ := r
    simp only [RTs] at rt
    obtain ⟨v1, _, c1, c2, rfl, r1, ⟨v2, _, c3, c4, rfl, r2, ⟨rfl, rfl⟩, rfl⟩, rfl⟩ := rt
    refine ⟨a, [v1, v2], rfl, .inl (.inl (w.same _ _ q)), rfl, v1, _, rfl, v2, _, rfl, rfl, ?_⟩
    have w1 : Wd E (σ.set i (some v1)) ⟨s.ρ.set i (some x), s.μ⟩ (cadd ce c3) := Wd.over (ce := cadd ce c3) (c := c1) i (w.less fun p => by simp only [cadd, cz]; omega) r1
    exact k _ wipe2 (w1.over j r2)
  · cases hb
end VI
namespace VI
open PySem L2 PyProof.Rows
def Srv (E : Hw) (items : List D) (J : It) : Prop := ∃ (G : Hp → Prop) (Y : Nat → Hp → V → Hp → Prop), Walk J items.length G Y ∧
  ∀ (E1 : Hw), Step E cz E1 → (∀ a o, E1.F a = some o → E1.H a = some o) → G E1.H ∧
    ∀ (i : Nat) (x : V) (H' : Hp) (d : D), items[i]? = some d → Y i E1.H x H' → ∃ E2, New E1 E2 ∧ E2.H = H' ∧ RT E2 d x cz
abbrev SrvR : Hw → List D → It → Cn → Prop := fun E items J c => c = cz ∧ Srv E items J
def srcM (T : Tab) (sk : Sk) (src : List Ex) : M (List D) := (evs T src).bnd fun ds => M.opt (srcD sk ds)
def tSrc (X : Cx) (ct : CT) (W : WX) (T : Tab) (sk : Sk) (src : List Ex) : TI := fun σ H R => Run X.K ct W SrvR (srcM T sk src) σ H R
def PIs (X : Cx) (ct : CT) (W : WX) (T : Tab) (tg iter : Expr) (sk : Sk) (src : List Ex) : Prop := PI X tg iter (tSrc X ct W T sk src)
theorem PI.weak {X : Cx} {tg iter : Expr} {t t' : TI} (h : PI X tg iter t) (w : ∀ σ H R, t' σ H R → t σ H R) : PI X tg iter t' := ⟨fun pins s σ H R I q => h.run pins s σ H R I (w σ H R q)⟩
theorem rts_z : ∀ {E : Hw} {ds : List D} {vs : List V} {k : Nat} {x : V} {d : D}, RTs E ds vs cz → vs[k]? = some x → ds[k]? = some d → RT E d x cz
  | _, [], _, _, _, _, _, _, e => by simp at e
  | _, d0 :: ds, _, 0, x, d, h, e1, e => by
    simp only [RTs] at h
    obtain ⟨v, vs', c1, c2, rfl, r, q, hz⟩ := h
    obtain ⟨rfl, rfl⟩ := cadd_z hz
    simp only [List.getElem?_cons_zero, Option.some.injEq] at e e1
    rw [← e, ← e1]
    exact r
  | _, d0 :: ds, _, k + 1, x, d, h, e1, e => by
    simp only [RTs] at h
    obtain ⟨v, vs', c1, c2, rfl, r, q, hz⟩ := h
    obtain ⟨rfl, rfl⟩ := cadd_z hz
    rw [List.getElem?_cons_succ] at e e1
    exact rts_z q e1 e
section
variable {X : Cx} {ct : CT} {W : WX} {T : Tab} {tg l a b : Expr} {c ca cb : Ex} {sk : Sk} {src : List Ex} {p pos : Pos}
theorem src_ok {σ : L2.St} {E : Hw} {s : VS} {ce : Cn} {R : It → Hp → Prop} (eK : E.K = X.K) (ec : E.ct = ct) (w : Wd E σ s ce) (z : RA W SrvR (srcM T sk src) σ E s ce R) :
    tFs X ct W T src σ E.H fun vs H1 => ∃ (E1 : Hw) (ds items : List D), E1.K = X.K ∧ E1.H = H1 ∧ (∀ a o, E1.F a = some o → E1.H a = some o) ∧ RTs E1 ds vs cz ∧ srcD sk ds = some items ∧ ∀ J, Srv E1 items J → R J H1 := by
  refine tFs_ok eK ec w (z.bnd fun ds vs E1 s1 c st r w1 z1 => ?_)
  have ecz : c = cz := r.1
  subst ecz
  cases q : srcD sk ds with
  | none => rw [RA.non (show M.opt (srcD sk ds) s1 = none by rw [q]; rfl)] at z1; exact z1.elim
  | some items =>
    rw [RA.ok (a := items) (s' := s1) (show M.opt (srcD sk ds) s1 = _ by rw [q]; rfl)] at z1
    exact ⟨E1, ds, items, st.k.trans eK, rfl, w1.same, r.2, q, fun J h => z1 J E1 cz (Step.refl _ _) ⟨rfl, h⟩ w1⟩
theorem s_rng1 (hg : Gl X "range") (hm : X.mg "range" = none) (ha : PV X ct W T a c) (hs : starEach [a] X.env = [(false, eval a X.env)] := by rfl) : PIs X ct W T tg (.Call (.Name "range" p) [a] [] pos) .rng1 [c] :=
  PI.weak (pi_range1 hg hm (pa_cons (pf_of ha) pa_nil hs) hs) fun σ H R z => by
    obtain ⟨E, s, ce, eK, ec, rfl, w, z⟩ := z
    refine tFs_mono (src_ok eK ec w z) fun vs H1 ⟨E1, ds, items, k1, eH, sm, rt, hs, kk⟩ => ?_
    subst eH
    unfold srcD at hs
    split at hs <;> try contradiction
    split at hs
    · cases hs
      rename_i n _ hn
      obtain ⟨v, _, c1, c2, rfl, r, ⟨rfl, rfl⟩, _⟩ := rt
      simp only [RT] at r
      obtain ⟨rfl, _⟩ := r
      have hlim : (lim : Int) = 1000000 := rfl
      refine ⟨n, rfl, by omega, by omega, kk _ ⟨_, _, by have := walk_range (lo := 0) (n := n.toNat); simpa using this, fun E2 st sm2 => ⟨trivial, ?_⟩⟩⟩
      rintro i x H' d e ⟨rfl, rfl⟩
      refine ⟨E2, New.refl sm2, rfl, ?_⟩
      rw [List.getElem?_map] at e
      cases q : (List.range n.toNat)[i]? with
      | none => rw [q] at e; cases e
      | some j =>
        rw [q] at e
        obtain ⟨hj, rfl⟩ := List.getElem?_eq_some_iff.mp q
        cases e
        rw [List.getElem_range]
        exact rt_int
    · cases hs
theorem pair_new {E : Hw} {t : Addr} {x y : V} {dx dy : D} (sm : ∀ a o, E.F a = some o → E.H a = some o) (ht : E.H t = none) (rx : RT E dx x cz) (ry : RT E dy y cz) :
    ∃ E2, New E E2 ∧ E2.H = upd E.H t (.tup [x, y]) ∧ RT E2 (.tup [dx, dy]) (.ref t) cz := by
  have n := layF_new sm (o := .tup [x, y]) ht
  refine ⟨E.layF t (.tup [x, y]), n, rfl, ?_⟩
  simp only [RT]
  refine ⟨t, [x, y], rfl, upd_same, ?_⟩
  simp only [RTs]
  exact ⟨x, [y], cz, cz, rfl, RT.mono dx (n.step _) rx, ⟨y, [], cz, cz, rfl, RT.mono dy (n.step _) ry, ⟨rfl, rfl⟩, rfl⟩, rfl⟩
theorem s_enum {elts : List Expr} {kk : Nat} {tpos : Pos} (hg : Gl X "enumerate") (hm : X.mg "enumerate" = none) (ha : PV X ct W T a c) (hs : starEach [a] X.env = [(false, eval a X.env)] := by rfl) :
    PIs X ct W T (.Tuple elts kk tpos) (.Call (.Name "enumerate" p) [a] [] pos) .enum [c] :=
  PI.weak (pi_enum hg hm (pa_cons (pf_of ha) pa_nil hs) hs) fun σ H R z => by
    obtain ⟨E, s, ce, eK, ec, rfl, w, z⟩ := z
    refine tFs_mono (src_ok eK ec w z) fun vs H1 ⟨E1, ds, items, k1, eH, sm, rt, hs, kk⟩ => ?_
    subst eH
    unfold srcD at hs
    split at hs <;> try contradiction
    cases hs
    rename_i ds _
    obtain ⟨v, _, c1, c2, rfl, r, ⟨rfl, rfl⟩, _⟩ := rt
    simp only [RT] at r
    obtain ⟨_, a, vs, rfl, q, rt⟩ := r
    refine ⟨a, vs, rfl, .inl (.inl (sm _ _ q)), kk _ ⟨fun H => SqL X.K H a vs, _, by have := walk_enum (K := X.K) (a := a) (xs := vs); rw [← rt.length] at this; simpa using this, fun E2 st sm2 => ⟨.inl (.inl (sm2 _ _ (st.f _ _ q))), ?_⟩⟩⟩
    rintro i x H' d e ⟨t, x1, x2, rfl, ht, rfl, e1, e2⟩
    cases e1
    rw [List.getElem?_zipWith] at e
    cases q1 : (List.range ds.length)[i]? with
    | none => rw [q1] at e; cases e
    | some j =>
      cases q2 : ds[i]? with
      | none => rw [q1, q2] at e; cases e
      | some d2 =>
        rw [q1, q2] at e
        obtain ⟨hj, rfl⟩ := List.getElem?_eq_some_iff.mp q1
        cases e
        rw [List.getElem_range]
        exact pair_new sm2 ht rt_int (rts_z (RTs.mono _ st rt) e2 q2)
end
end VI
namespace VI
open PySem L2 PyProof.Rows
abbrev WF : WX := fun _ _ _ _ => False
abbrev RB : Hw → Bool → Bool → Cn → Prop := fun _ b b' c => c = cz ∧ b = b'
def tCs (X : Cx) (ct : CT) (W : WX) (T : Tab) (cs : List Ex) : TT := fun σ H Q => Run X.K ct W RB (evc T cs) σ H Q
def PCs (X : Cx) (ct : CT) (W : WX) (T : Tab) (ifs : List Expr) (cs : List Ex) : Prop := PTs X ifs (tCs X ct W T cs)
theorem PTs.weak {X : Cx} {e : List Expr} {t t' : TT} (h : PTs X e t) (w : ∀ σ H Q, t' σ H Q → t σ H Q) : PTs X e t' := ⟨fun pins s σ H Q I q => h.run pins s σ H Q I (w σ H Q q)⟩
theorem pcs_nil {X : Cx} {ct : CT} {W : WX} {T : Tab} : PCs X ct W T [] [] := PTs.weak pts_nil fun σ H Q z => by
  obtain ⟨E, s, ce, eK, ec, rfl, w, z⟩ := z
  simp only [evc] at z
  exact z.ret (c := cz) (Step.refl _ _) ⟨rfl, rfl⟩ w
section
variable {E : Hw} {σ : L2.St} {s : VS} {ce : Cn}
theorem Wd.wrE {D : Addr} {o : HO} (w : Wd E σ s ce) (h : ce D ≠ 0) : Wd { E with H := upd E.H D o } σ s ce ∧ ∀ c : Cn, c D = 0 → Step E c { E with H := upd E.H D o } := by
  obtain ⟨c1, c2, re, rm, t, f⟩ := w.own
  have hs : ∀ c : Cn, c D = 0 → Step E c { E with H := upd E.H D o } := fun c hc => ⟨rfl, rfl, fun _ _ h => h, ⟨[], by simp⟩, fun b o' z y => by
    show upd E.H D o b = some o'
    rw [upd_ne (fun e => z (by rw [e]; exact hc))]
    exact y⟩
  have tD := t D
  have fD := f D (by omega)
  refine ⟨⟨fun p u q => ?_, ⟨c1, c2, RE.mono (hs c1 (by omega)) re, RM.mono (hs c2 (by omega)) rm, t, f⟩, fun p z => ?_⟩, hs⟩
  · show upd E.H D o p = some u
    rw [upd_ne (fun e => by rw [e] at q; rw [fD] at q; cases q)]
    exact w.same p u q
  · show upd E.H D o p ≠ none
    by_cases e : p = D
    · rw [e, upd_same]; exact fun z => nomatch z
    · rw [upd_ne e]; exact w.ex p z
theorem Wd.held {c : Cn} (w : Wd E σ s (cadd ce c)) : ∀ p, ce p + c p ≤ 1 := fun p => by
  obtain ⟨c1, c2, re, rm, t, f⟩ := w.own
  have := t p
  simp only [cadd] at this
  omega
end
theorem one_self (D : Addr) : one D D = 1 := by simp [one]
theorem loopC_cons {f : D → M (Option D)} {d : D} {rest acc : List D} {s sf : VS} {ds : List D} (h : loopC f (d :: rest) acc s = some (.ok ds sf)) :
    ∃ r s1, f d s = some (.ok r s1) ∧ match r with
      | some y => acc.length < lim ∧ loopC f rest (acc ++ [y]) s1 = some (.ok ds sf)
      | none => loopC f rest acc s1 = some (.ok ds sf) := by
  unfold loopC M.bnd at h
  cases q : f d s with
  | none => rw [q] at h; cases h
  | some r =>
    rw [q] at h
    cases r with
    | ex x s1 => cases h
    | ok r s1 =>
      refine ⟨r, s1, rfl, ?_⟩
      cases r with
      | none => exact h
      | some y =>
        simp only at h ⊢
        split at h
        · exact ⟨by assumption, h⟩
        · cases h
theorem lcBody_ok {tg : List Nat} {mc : M Bool} {me : M D} {d : D} {s s1 : VS} {r : Option D} (h : lcBody tg mc me d s = some (.ok r s1)) :
    ∃ ρ b s2, bindT tg d (wipeR s.ρ tg) = some ρ ∧ mc ⟨ρ, s.μ⟩ = some (.ok b s2) ∧ ((b = false ∧ r = none ∧ s1 = s2) ∨ (b = true ∧ ∃ y, me s2 = some (.ok y s1) ∧ r = some (frz y))) := by
  unfold lcBody at h
  cases q : bindT tg d (wipeR s.ρ tg) with
  | none => rw [q] at h; cases h
  | some ρ =>
    rw [q] at h
    simp only [M.bnd] at h
    cases q1 : mc ⟨ρ, s.μ⟩ with
    | none => rw [q1] at h; cases h
    | some r1 =>
      rw [q1] at h
      cases r1 with
      | ex x s2 => cases h
      | ok b s2 =>
        refine ⟨ρ, b, s2, rfl, q1, ?_⟩
        cases b with
        | false => cases h; exact .inl ⟨rfl, rfl, rfl⟩
        | true =>
          simp only [if_true, M.bnd] at h
          cases q2 : me s2 with
          | none => rw [q2] at h; cases h
          | some r2 =>
            rw [q2] at h
            cases r2 with
            | ex x s3 => cases h
            | ok y s3 => cases h; exact .inr ⟨rfl, y, rfl, rfl⟩
section
variable {X : Cx} {ct : CT} {W : WX} {T : Tab} {elt tg iter : Expr} {ifs : List Expr} {scope : Scope} {own : List (Str × Nat)} {pos : Pos} {sk : Sk} {src cs : List Ex} {c : Ex} {is : List Nat} {g : TG}
theorem rt_lst {E : Hw} {a : Addr} {vs : List V} {ds : List D} (h : E.H a = some (.lst vs)) (r : RTs E ds vs cz) : RT E (.lst true ds) (.ref a) (one a) := by
  simp only [RT]
  exact ⟨a, vs, cz, rfl, h, r, rfl⟩
theorem lc_run (gb : GB X.K g is) {σ : L2.St} {H : Hp} {Q : VK} (z : tV X ct W T (.lc is sk src cs c) σ H Q) :
    tLc (tSrc X ct W T sk src) g (tCs X ct WF T cs) (tV X ct WF T c) is σ H Q := by
  obtain ⟨E, s, ce, eK, ec, rfl, w, z⟩ := z
  have z : RA W RT' ((srcM T sk src).bnd fun items => lcM is (evc T cs) (ev T c) items) σ E s ce Q := RA.eq (by simp only [ev]; rfl) z
  refine ⟨E, s, ce, eK, ec, rfl, w, z.bnd fun items J E1 s1 c1 st r w1 z1 => ?_⟩
  obtain ⟨rfl, G, Y, wk, sv⟩ := r
  intro Dn hD
  -- the outcome of the whole
  cases q : loopC (lcBody is (evc T cs) (ev T c)) items [] ⟨wipeR s1.ρ is, s1.μ⟩ with
  | none => rw [RA.non (by simp only [lcM, q, lcEnd])] at z1; exact z1.elim
  | some r =>
    cases r with
    | ex x s' => rw [RA.non (by simp only [lcM, q, lcEnd])] at z1; exact z1.elim
    | ok ds sf =>
      rw [RA.ok (a := .lst true ds) (s' := ⟨wipeR sf.ρ is, sf.μ⟩) (by simp only [lcM, q, lcEnd])] at z1
      refine lc_it wk (Pv := fun i H => ∃ (E' : Hw) (s' : VS) (acc : List D) (vs : List V), E'.H = H ∧ Step E1 ce E' ∧ Wd E' (L2.wipe σ is) ⟨wipeR s'.ρ is, s'.μ⟩ (cadd ce (one Dn)) ∧ H Dn = some (.lst vs) ∧ RTs E' acc vs cz ∧
        loopC (lcBody is (evc T cs) (ev T c)) (items.drop i) acc s' = some (.ok ds sf)) ?_ (fun i H hi ⟨E', s', acc, vs, eH, st', w', _⟩ => ?_) (fun i x H H' hi ⟨E', s', acc, vs, eH, st', w', hv, ra, ql⟩ y => ?_) (fun H ⟨E', s', acc, vs, eH, st', w', hv, ra, ql⟩ => ?_)
      · -- at first
        have n : New E1 (E1.lay Dn (.lst [])) := lay_new w1.same hD
        have w2 : Wd (E1.lay Dn (.lst [])) σ s1 (cadd (cadd ce cz) (one Dn)) := w1.new n (fun p => by simp only [one]; split <;> omega) fun p h => by
          have e : p = Dn := by
            by_cases z : p = Dn
            · exact z
            · simp [one, z] at h
          subst e
          refine ⟨hD, ?_, by show upd E1.H p _ p ≠ none; rw [upd_same]; exact fun z => nomatch z⟩
          show E1.F p = none
          cases r : E1.F p with
          | none => rfl
          | some o => rw [w1.same p o r] at hD; cases hD
        refine ⟨E1.lay Dn (.lst []), ⟨wipeR s1.ρ is, s1.μ⟩, [], [], rfl, n.step _, ?_, upd_same, ⟨rfl, rfl⟩, q⟩
        have := w2.wipe is
        rw [wipeR_wipeR]
        exact this
      · subst eH
        exact (sv E' (st'.less fun p h => absurd rfl h) w'.same).1
      · subst eH
        have hd : items[i]? = some items[i] := by simp [hi]
        obtain ⟨E2, n2, eH2, rx⟩ := (sv E' (st'.less fun p h => absurd rfl h) w'.same).2 i x H' items[i] hd y
        subst eH2
        rw [List.drop_eq_getElem_cons hi] at ql
        obtain ⟨r, s3, hb, hr⟩ := loopC_cons ql
        obtain ⟨ρ, b, s2, hbt, hcs, hcase⟩ := lcBody_ok hb
        have w2 : Wd E2 (L2.wipe σ is) ⟨wipeR s'.ρ is, s'.μ⟩ (cadd ce (one Dn)) := w'.new (c := cz) n2 (fun _ => Nat.zero_le _) fun p h => absurd rfl h
        have eK2 : E2.K = X.K := n2.k.trans (st'.k.trans (st.k.trans eK))
        have ec2 : E2.ct = ct := n2.ct.trans (st'.ct.trans (st.ct.trans ec))
        have hv2 : E2.H Dn = some (.lst vs) := n2.h _ _ hv
        have ra2 : RTs E2 acc vs cz := RTs.mono acc (n2.step _) ra
        refine gb E2 _ ⟨wipeR s'.ρ is, s'.μ⟩ (cadd ce (one Dn)) cz items[i] x ρ _ eK2 w2 rx hbt fun σ' hw w3 => ⟨by rw [hw, wipe_wipe], ?_⟩
        rw [wipe_wipe] at hw
        refine ⟨E2, ⟨ρ, s'.μ⟩, cadd ce (one Dn), eK2, ec2, rfl, w3, ?_⟩
        rw [RA.ok (a := b) (s' := s2) hcs]
        rintro b' E3 c3 st3 ⟨rfl, rfl⟩ w4
        have w4 : Wd E3 σ' s2 (cadd ce (one Dn)) := w4
        have hD1 : cadd ce (one Dn) Dn ≠ 0 := by simp [cadd, one]
        have hv3 : E3.H Dn = some (.lst vs) := st3.h _ _ hD1 hv2
        have ra3 : RTs E3 acc vs cz := RTs.mono acc (st3.less fun p h => absurd rfl h) ra2
        have up : ∀ {Ex : Hw}, Step E3 (cadd ce (one Dn)) Ex → Step E1 ce Ex := fun sx =>
          st'.trans ((n2.step ce).trans ((st3.trans sx).less fun p h => by simp only [cadd]; omega))
        rcases hcase with ⟨rfl, rfl, rfl⟩ | ⟨rfl, y', he, rfl⟩
        · rw [if_neg (by decide)]
          refine ⟨E3, s3, acc, vs, rfl, up (Step.refl _ _), ?_, hv3, ra3, hr⟩
          have := w4.wipe is
          rw [hw] at this
          exact this
        · rw [if_pos rfl]
          refine ⟨E3, s2, cadd ce (one Dn), st3.k.trans eK2, st3.ct.trans ec2, rfl, w4, ?_⟩
          rw [RA.ok (a := y') (s' := s3) he]
          intro v E4 c4 st4 r4 w5
          obtain ⟨E5, st5, eH5, r5, w6⟩ := w5.freeze r4
          have st35 := st4.trans st5
          have hv5 : E5.H Dn = some (.lst vs) := st35.h _ _ hD1 hv3
          have ra5 : RTs E5 acc vs cz := RTs.mono acc (st35.less fun p h => absurd rfl h) ra3
          obtain ⟨w7, hs7⟩ := w6.wrE (o := .lst (vs ++ [v])) hD1
          refine ⟨vs, by rw [← eH5]; exact hv5, by rw [← ra5.length]; exact Nat.lt_of_lt_of_le hr.1 (by decide), ?_⟩
          have hcD : ce Dn = 0 := by
            have := w6.held Dn
            rw [one_self] at this
            omega
          refine ⟨{ E5 with H := upd E5.H Dn (.lst (vs ++ [v])) }, s3, acc ++ [frz y'], vs ++ [v], by rw [← eH5], (up st35).trans (hs7 ce hcD), ?_, upd_same, rts_snoc (RTs.mono acc (hs7 cz rfl) ra5) (RT.mono _ (hs7 cz rfl) r5), hr.2⟩
          have := w7.wipe is
          rw [hw] at this
          exact this
      · subst eH
        rw [List.drop_length, loopC] at ql
        cases ql
        exact z1 (.ref Dn) E' (one Dn) st' (rt_lst hv ra) w'.unwipe
theorem g_lc (G : XG X) (hi : PIs X ct W T tg iter sk src) (gb : GB X.K g is) (hown : own.map (·.2) = is) (ok : BlkOk X.N X.env.scope scope own)
    (hg : ∀ (s : Shared) (H : Hp) (C : Addr) (cl : List (Str × Addr)) (fp : List Addr), PG (X.blk s H scope (compEnvC scope cl C X.env) fp) tg g)
    (hc : ∀ (s : Shared) (H : Hp) (C : Addr) (cl : List (Str × Addr)) (fp : List Addr), PCs (X.blk s H scope (compEnvC scope cl C X.env) fp) ct WF T ifs cs)
    (he : ∀ (s : Shared) (H : Hp) (C : Addr) (cl : List (Str × Addr)) (fp : List Addr), PV (X.blk s H scope (compEnvC scope cl C X.env) fp) ct WF T elt c)
    (hs : ∀ x, foldedSetIterable iter X.env x = pure x := by intro _; rfl) :
    PV X ct W T (.ListComp elt [⟨tg, iter, ifs, 0⟩] scope pos) (.lc is sk src cs c) := by
  subst hown
  exact PE.weak (pe_lc (tt := tCs X ct WF T cs) (te := tV X ct WF T c) G.calm G.nd hi ok hg hc he hs) fun σ H Q z => lc_run gb z
end
end VI
namespace VI
open PySem L2 PyProof.Rows
inductive Fl where
  | nx | bk | ct | rt (d : D)
inductive Sm where
  | asg (tg : List Nat) (e : Ex)
  | par2 (i j : Nat) (a b : Ex)
  | par3 (i j l : Nat) (a b c : Ex)
  
  | par3o (i j l : Nat) (a b c : Ex)
  | ex (e : Ex)
  | setS (m : Mp) (i : Nat) (k e : Ex)
  | setF (C : Str) (i : Nat) (f : Str) (e : Ex)
  | setFo (C : Str) (i : Nat) (f : Str) (e : Ex)
  | setFm (m : Mp) (C : Str) (i : Nat) (f : Str) (k e : Ex)
  | ite (c : Ex) (a b : List Sm)
  | whl (c : Ex) (b : List Sm)
  
  | whlW (i : Nat) (e : Ex) (b : List Sm)
  | for (tg : List Nat) (sk : Sk) (src : List Ex) (b : List Sm)
  
  | forB (tg : List Nat) (i : Nat) (b : List Sm)
  | ret (e : Ex) | retN | pass | brk | cnt | never
  
  | rais (C : Str) (fn : List Str) (ring : Bool) (as : List Ex)
  
  | tryK (b : List Sm) (al : List Str) (i j : Nat)
def free (Pn tg : List Nat) : Bool := tg.all fun i => decide (i ∉ Pn)
def seqF (m2 : M Fl) : Fl → M Fl
  | .nx => m2
  | f => M.ret f
def loopF (m2 : M Fl) : Fl → M Fl
  | .nx => m2
  | .ct => m2
  | .bk => M.ret .nx
  | .rt d => M.ret (.rt d)
def tst (f : Bool → M Fl) : D → M Fl
  | .bl b => f b
  | _ => M.fail
def whileM (c : M D) (b : M Fl) : Nat → M Fl
  | 0 => M.fail
  | n + 1 => c.bnd (tst fun k => if k then b.bnd (loopF (whileM c b n)) else M.ret .nx)
def bndT (Pn tg : List Nat) (d : D) (m : M Fl) : M Fl := fun s => if free Pn tg then match bindT tg d s.ρ with
  | some ρ => m ⟨ρ, s.μ⟩
  | none => none
  else none
def forM (Pn tg : List Nat) (b : M Fl) : List D → M Fl
  | [] => M.ret .nx
  | d :: ds => bndT Pn tg d (b.bnd (loopF (forM Pn tg b ds)))
def forMB (i : Nat) (d0 : D) (Pn tg : List Nat) (b : M Fl) : List D → M Fl
  | [] => fun s => if hasB i d0 s then M.ret .nx s else none
  | d :: ds => fun s => if hasB i d0 s then bndT Pn tg d (b.bnd (loopF (forMB i d0 Pn tg b ds))) s else none
def enumD (ds : List D) : List D := (List.range ds.length).zipWith (fun (i : Nat) d => .tup [.int (i : Int), d]) ds
def whileW (Pn : List Nat) (i : Nat) (m : M D) (b : M Fl) : Nat → M Fl
  | 0 => M.fail
  | n + 1 => (m.bnd fun d => M.ret (frz d)).bnd fun d => bndT Pn [i] d (if isNon d then M.ret .nx else b.bnd (loopF (whileW Pn i m b n)))
def noEx {α : Type} (m : M α) : M α := fun s => match m s with
  | some (.ok a s') => some (.ok a s')
  | _ => none
def exOf (sk : Sk) (m : M Fl) : M Fl := match sk with
  | .keys => noEx m
  | .items => noEx m
  | _ => m
theorem exOf_ok {sk : Sk} {m : M Fl} {s s' : VS} {f : Fl} (h : m s = some (.ok f s')) : exOf sk m s = some (.ok f s') := by
  cases sk <;> first | exact h | (show noEx m s = _; unfold noEx; rw [h])
def setFM (C : Str) (i : Nat) (f : Str) (d : D) : M Fl := fun s => match s.ρ[i]? with
  | some (some (.ref k)) => match s.μ[k]? with
    | some r => if r.cls = C ∧ r.fn.length < 900 then some (.ok .nx ⟨s.ρ, s.μ.set k (fput r f d)⟩) else none
    | none => none
  | _ => none
mutual
def exec (T : Tab) (Pn : List Nat) : Sm → M Fl
  | .asg tg e => (ev T e).bnd fun d => bndT Pn tg d (M.ret .nx)
  | .par2 i j a b => (evs T [a, b]).bnd fun ds => match ds with
    | [x, y] => bndT Pn [i] x (bndT Pn [j] y (M.ret .nx))
    | _ => M.fail
  | .par3 i j l a b c => (evs T [a, b, c]).bnd fun ds => match ds with
    | [x, y, z] => bndT Pn [i] x (bndT Pn [j] y (bndT Pn [l] z (M.ret .nx)))
    | _ => M.fail
  | .par3o i j l a b c => fun s => match ev T a s with
    | some (.ok x s1) => match ev T b s1 with
      | some (.ok y s2) => match ev T c s2 with
        | some (.ok z s3) => bndT Pn [i] x (bndT Pn [j] y (bndT Pn [l] z (M.ret .nx))) s3
        | _ => none
      | _ => none
    | _ => none
  | .ex e => (ev T e).bnd fun _ => M.ret .nx
  | .setS m i k e => (ev T (.mt m (.var i) [e, k])).bnd fun _ => M.ret .nx
  | .setF C i f e => (ev T e).bnd fun d => setFM C i f (frz d)
  | .setFo C i f e => (ev T e).bnd fun d => setFM C i f d
  | .setFm m C i f k e => (ev T e).bnd fun d s => match fldO C f i s, evq T s k with
    | some o, some kd => if m.kind o && allF kd then match m.fn o [frz d, kd] with
        | some (o', _) => some (.ok .nx (fldSet f i o' s))
        | none => none
      else none
    | _, _ => none
  | .ite c a b => (ev T c).bnd (tst fun k => if k then execs T Pn a else execs T Pn b)
  | .whl c b => whileM (ev T c) (execs T Pn b) T.fuel
  | .whlW i e b => whileW Pn i (ev T e) (execs T Pn b) T.fuel
  | .for tg sk src b => (srcM T sk src).bnd fun items => exOf sk (forM Pn tg (execs T Pn b) items)
  | .forB tg i b => fun s => match s.ρ[i]? with
    | some (some (.lst true ds)) => if allFs ds && !tg.contains i then forMB i (.lst true ds) Pn tg (execs T (i :: Pn) b) (enumD ds) s else none
    | _ => none
  | .ret e => (ev T e).bnd fun d => M.ret (.rt d)
  | .retN => M.ret (.rt .non)
  | .pass => M.ret .nx
  | .brk => M.ret .bk
  | .cnt => M.ret .ct
  | .never => M.fail
  | .rais C fn ring as => (evs T as).bnd fun ds => match mkXD fn ring ds with
    | some xs => fun s => some (.ex ⟨C, fn.reverse, (frzs xs).reverse⟩ s)
    | none => M.fail
  | .tryK b al i j => fun s => match execs T Pn b s with
    | some (.ex x s') => if x.cls ∈ al ∧ free Pn [i, j] = true then some (.ok .nx ⟨(s'.ρ.set i (some (.exc x.cls x.fn x.ds))).set j none, s'.μ⟩) else none
    | r => r
def execs (T : Tab) (Pn : List Nat) : List Sm → M Fl
  | [] => M.ret .nx
  | c :: cs => (exec T Pn c).bnd (seqF (execs T Pn cs))
end
def Pin (Pn : List Nat) (σ σ' : L2.St) : Prop := ∀ i ∈ Pn, σ'[i]? = σ[i]?
theorem Pin.refl {Pn : List Nat} {σ : L2.St} : Pin Pn σ σ := fun _ _ => rfl
theorem Pin.trans {Pn : List Nat} {σ σ1 σ2 : L2.St} (a : Pin Pn σ σ1) (b : Pin Pn σ1 σ2) : Pin Pn σ σ2 := fun i h => (b i h).trans (a i h)
theorem Pin.wipe {Pn is : List Nat} {σ σ' : L2.St} (h : L2.wipe σ' is = L2.wipe σ is) (f : free Pn is = true) : Pin Pn σ σ' := fun i hi => by
  have n : i ∉ is := fun z => by
    have := List.all_eq_true.mp f i z
    simp at this
    exact this hi
  have := congrArg (fun l => l[i]?) h
  simp only [wipe_get, if_neg n] at this
  exact this
def FQ (Q : Ends) (σ' : L2.St) (E' : Hw) (s' : VS) (ce : Cn) : Fl → Prop
  | .nx => Wd E' σ' s' ce → Q.nx σ' E'.H
  | .bk => Wd E' σ' s' ce → Q.bk σ' E'.H
  | .ct => Wd E' σ' s' ce → Q.ct σ' E'.H
  | .rt d => ∀ (v : V) (c : Cn), RT E' d v c → Wd E' σ' s' (cadd ce c) → Q.rt v E'.H
def RS (W : WX) (Pn : List Nat) (m : M Fl) (σ : L2.St) (E : Hw) (s : VS) (ce : Cn) (Q : Ends) : Prop := match m s with
  | some (.ok f s') => ∀ (σ' : L2.St) (E' : Hw), Pin Pn σ σ' → Step E ce E' → FQ Q σ' E' s' ce f
  | some (.ex x s') => ∀ (cls : Value) (d : Option Addr) (σ' : L2.St) (E' : Hw), Pin Pn σ σ' → Step E ce E' → ExR E' x cls d → Wd E' σ' s' ce → W cls d σ' E'.H
  | none => False
section
variable {X : Cx} {ct : CT} {W : WX} {T : Tab} {Pn : List Nat} {α β : Type} {Rel : Hw → α → β → Cn → Prop} {m : M α} {f : α → M Fl} {mb mk : M Fl} {σ σ' : L2.St} {E E' : Hw} {s s' : VS} {ce : Cn} {Q : Ends} {R : β → Hp → Prop}
theorem RS.non (e : mb s = none) : RS W Pn mb σ E s ce Q = False := by
  unfold RS
  rw [e]
theorem RS.ok {fl : Fl} (e : mb s = some (.ok fl s')) : RS W Pn mb σ E s ce Q = ∀ (σ' : L2.St) (E' : Hw), Pin Pn σ σ' → Step E ce E' → FQ Q σ' E' s' ce fl := by
  unfold RS
  rw [e]
theorem RS.exc {x : EXC} (e : mb s = some (.ex x s')) : RS W Pn mb σ E s ce Q = ∀ (cls : Value) (d : Option Addr) (σ' : L2.St) (E' : Hw), Pin Pn σ σ' → Step E ce E' → ExR E' x cls d → Wd E' σ' s' ce → W cls d σ' E'.H := by
  unfold RS
  rw [e]
theorem RS.eq (e : mb s = mk s') (h : RS W Pn mb σ E s ce Q) : RS W Pn mk σ E s' ce Q := by
  unfold RS at h ⊢
  rw [← e]
  exact h
theorem RS.up (h : RS W Pn mb σ E s ce Q) (p : Pin Pn σ σ') (st : Step E ce E') : RS W Pn mb σ' E' s ce Q := by
  cases q : mb s with
  | none => rw [RS.non q] at h; exact h.elim
  | some r =>
    cases r with
    | ex x s2 =>
      rw [RS.exc q] at h ⊢
      exact fun cls d σ2 E2 p2 st2 => h cls d σ2 E2 (p.trans p2) (st.trans st2)
    | ok fl s2 =>
      rw [RS.ok q] at h ⊢
      exact fun σ2 E2 p2 st2 => h σ2 E2 (p.trans p2) (st.trans st2)
theorem RS.exOf {sk : Sk} (h : RS W Pn (exOf sk mb) σ E s ce Q) : RS W Pn mb σ E s ce Q := by
  cases sk with
  | keys =>
    have h : RS W Pn (noEx mb) σ E s ce Q := h
    cases e : mb s with
    | none => rw [RS.non (show noEx mb s = none by unfold noEx; rw [e])] at h; exact h.elim
    | some r =>
      cases r with
      | ok f s' => rw [RS.ok (show noEx mb s = some (.ok f s') by unfold noEx; rw [e])] at h; rw [RS.ok e]; exact h
      | ex x s' => rw [RS.non (show noEx mb s = none by unfold noEx; rw [e])] at h; exact h.elim
  | items =>
    have h : RS W Pn (noEx mb) σ E s ce Q := h
    cases e : mb s with
    | none => rw [RS.non (show noEx mb s = none by unfold noEx; rw [e])] at h; exact h.elim
    | some r =>
      cases r with
      | ok f s' => rw [RS.ok (show noEx mb s = some (.ok f s') by unfold noEx; rw [e])] at h; rw [RS.ok e]; exact h
      | ex x s' => rw [RS.non (show noEx mb s = none by unfold noEx; rw [e])] at h; exact h.elim
  | _ => exact h
theorem RS.bnd (h : RS W Pn (m.bnd f) σ E s ce Q) (k : ∀ (a : α) (b : β) (E1 : Hw) (s1 : VS) (c : Cn), Step E ce E1 → Rel E1 a b c → Wd E1 σ s1 (cadd ce c) → RS W Pn (f a) σ E1 s1 ce Q → R b E1.H) : RA W Rel m σ E s ce R := by
  cases q : m s with
  | none => rw [RS.non (show M.bnd m f s = none by unfold M.bnd; rw [q])] at h; exact h.elim
  | some r =>
    cases r with
    | ex x s2 =>
      rw [RS.exc (show M.bnd m f s = some (.ex x s2) by unfold M.bnd; rw [q])] at h
      rw [RA.exc q]
      exact fun cls d E2 st r w => h cls d σ E2 Pin.refl st r w
    | ok a s2 =>
      rw [RA.ok q]
      intro b E2 c st r w
      refine k a b E2 s2 c st r w ?_
      exact (RS.eq (mk := f a) (s' := s2) (show M.bnd m f s = f a s2 by unfold M.bnd; rw [q]) h).up Pin.refl st
theorem RS.ret_nx (h : RS W Pn (M.ret .nx) σ E s ce Q) (w : Wd E σ s ce) : Q.nx σ E.H := by
  rw [RS.ok (show M.ret Fl.nx s = some (.ok .nx s) from rfl)] at h
  exact h σ E Pin.refl (Step.refl _ _) w
theorem RS.seq (h : RS W Pn (mb.bnd (seqF mk)) σ E s ce Q) {N : L2.St → Hp → Prop} (k : ∀ (σ' : L2.St) (E' : Hw) (s' : VS), Pin Pn σ σ' → Step E ce E' → Wd E' σ' s' ce → RS W Pn mk σ' E' s' ce Q → N σ' E'.H) :
    RS W Pn mb σ E s ce { Q with nx := N } := by
  cases q : mb s with
  | none => rw [RS.non (show M.bnd mb _ s = none by unfold M.bnd; rw [q])] at h; exact h.elim
  | some r =>
    cases r with
    | ex x s2 =>
      rw [RS.exc (show M.bnd mb _ s = some (.ex x s2) by unfold M.bnd; rw [q])] at h
      rw [RS.exc q]
      exact h
    | ok fl s2 =>
      have e : M.bnd mb (seqF mk) s = seqF mk fl s2 := by unfold M.bnd; rw [q]
      rw [RS.ok q]
      intro σ1 E1 p st
      have h := (RS.eq (mk := seqF mk fl) (s' := s2) e h).up p st
      cases fl with
      | nx => exact fun w => k σ1 E1 s2 p st w h
      | bk =>
        rw [RS.ok (show seqF mk Fl.bk s2 = some (.ok .bk s2) from rfl)] at h
        exact fun w => h σ1 E1 Pin.refl (Step.refl _ _) w
      | ct =>
        rw [RS.ok (show seqF mk Fl.ct s2 = some (.ok .ct s2) from rfl)] at h
        exact fun w => h σ1 E1 Pin.refl (Step.refl _ _) w
      | rt d =>
        rw [RS.ok (show seqF mk (Fl.rt d) s2 = some (.ok (.rt d) s2) from rfl)] at h
        exact fun v c r w => h σ1 E1 Pin.refl (Step.refl _ _) v c r w
theorem RS.loop (h : RS W Pn (mb.bnd (loopF mk)) σ E s ce Q) {N : L2.St → Hp → Prop} (k : ∀ (σ' : L2.St) (E' : Hw) (s' : VS), Pin Pn σ σ' → Step E ce E' → Wd E' σ' s' ce → RS W Pn mk σ' E' s' ce Q → N σ' E'.H) :
    RS W Pn mb σ E s ce { Q with nx := N, ct := N, bk := Q.nx } := by
  cases q : mb s with
  | none => rw [RS.non (show M.bnd mb _ s = none by unfold M.bnd; rw [q])] at h; exact h.elim
  | some r =>
    cases r with
    | ex x s2 =>
      rw [RS.exc (show M.bnd mb _ s = some (.ex x s2) by unfold M.bnd; rw [q])] at h
      rw [RS.exc q]
      exact h
    | ok fl s2 =>
      have e : M.bnd mb (loopF mk) s = loopF mk fl s2 := by unfold M.bnd; rw [q]
      rw [RS.ok q]
      intro σ1 E1 p st
      have h := (RS.eq (mk := loopF mk fl) (s' := s2) e h).up p st
      cases fl with
      | nx => exact fun w => k σ1 E1 s2 p st w h
      | ct => exact fun w => k σ1 E1 s2 p st w h
      | bk =>
        rw [RS.ok (show loopF mk Fl.bk s2 = some (.ok .nx s2) from rfl)] at h
        exact fun w => h σ1 E1 Pin.refl (Step.refl _ _) w
      | rt d =>
        rw [RS.ok (show loopF mk (Fl.rt d) s2 = some (.ok (.rt d) s2) from rfl)] at h
        exact fun v c r w => h σ1 E1 Pin.refl (Step.refl _ _) v c r w
theorem bndT_ok {d : D} {tg : List Nat} (h : RS W Pn (bndT Pn tg d mk) σ E s ce Q) : ∃ ρ, free Pn tg = true ∧ bindT tg d s.ρ = some ρ ∧ RS W Pn mk σ E ⟨ρ, s.μ⟩ ce Q := by
  by_cases hf : free Pn tg = true
  · cases q : bindT tg d s.ρ with
    | none => rw [RS.non (by unfold bndT; rw [if_pos hf, q])] at h; exact h.elim
    | some ρ => exact ⟨ρ, hf, rfl, RS.eq (by unfold bndT; rw [if_pos hf, q]) h⟩
  · rw [RS.non (by unfold bndT; rw [if_neg hf])] at h
    exact h.elim
end
section
variable (X : Cx) (ct : CT) (W : WX) (T : Tab) (Pn : List Nat)
def tS (m : M Fl) : TS := fun Q σ H => ∃ (E : Hw) (s : VS) (ce : Cn), E.K = X.K ∧ E.ct = ct ∧ E.H = H ∧ Wd E σ s ce ∧ RS W Pn m σ E s ce Q
def PSc (st : Stmt) (c : Sm) : Prop := PS X st (tS X ct W Pn (exec T Pn c))
def PSq (st : List Stmt) (c : List Sm) : Prop := PSs X st (tS X ct W Pn (execs T Pn c))
end
section
variable {X : Cx} {ct : CT} {W : WX} {T : Tab} {Pn : List Nat} {st : Stmt} {sts a b : List Stmt} {c : Sm} {cs ca cb : List Sm} {e e1 e2 : Expr} {x x1 x2 : Ex} {pos : Pos} {is : List Nat} {g : TG} {tg : Expr}
theorem r_nil : PSq X ct W T Pn [] [] := PSs.weak pss_nil fun Q σ H z => by
  obtain ⟨E, s, ce, eK, ec, rfl, w, z⟩ := z
  simp only [execs] at z
  exact z.ret_nx w
theorem r_cons (h : PSc X ct W T Pn st c) (hs : PSq X ct W T Pn sts cs) : PSq X ct W T Pn (st :: sts) (c :: cs) := PSs.weak (pss_cons h hs) fun Q σ H z => by
  obtain ⟨E, s, ce, eK, ec, rfl, w, z⟩ := z
  simp only [execs] at z
  exact ⟨E, s, ce, eK, ec, rfl, w, z.seq fun σ1 E1 s1 p st w1 z1 => ⟨E1, s1, ce, st.k.trans eK, st.ct.trans ec, rfl, w1, z1⟩⟩
theorem asg_run (gb : GB X.K g is) {σ : L2.St} {H : Hp} {Q : Ends} (z : tS X ct W Pn (exec T Pn (.asg is x)) Q σ H) : tAsg (tV X ct W T x) g Q σ H := by
  obtain ⟨E, s, ce, eK, ec, rfl, w, z⟩ := z
  simp only [exec] at z
  refine ⟨E, s, ce, eK, ec, rfl, w, z.bnd fun d v E1 s1 c st r w1 z1 => ?_⟩
  obtain ⟨ρ, hf, hb, z2⟩ := bndT_ok z1
  refine gb E1 σ s1 ce c d v ρ _ (st.k.trans eK) w1 r hb fun σ' hw w2 => ?_
  exact (z2.up (Pin.wipe hw hf) (Step.refl _ _)).ret_nx w2
theorem r_set {i : Nat} {y : Str} {p : Pos} (G : XG X) (hi : X.N[i]? = some y) (hx : Loc X.env.scope y) (h : PV X ct W T e x) (hs : swapsWith e (some (.Name y p)) pos.line X.env = pure false := by rfl) (hf : X.fn y = true := by rfl) :
    PSc X ct W T Pn (.Assign [.Name y p] e pos) (.asg [i] x) := PS.weak (ps_set G.nd hi hx h hs (.inl hf)) fun Q σ H z => asg_run gb1 z
theorem r_setLc {i : Nat} {y : Str} {py spos : Pos} {elt tg iter : Expr} {ifs : List Expr} {scope : Scope} {own : List (Str × Nat)} {sk : Sk} {src cs : List Ex} {c : Ex} (G : XG X) (hy : X.N[i]? = some y) (hyl : X.env.scope.names.lookup y = some .local)
    (hsw : swapsWith (.ListComp elt [⟨tg, iter, ifs, 0⟩] scope pos) (some (.Name y py)) spos.line X.env = pure true) (hi : PIs X ct W T tg iter sk src) (gb : GB X.K g is) (hown : own.map (·.2) = is) (ok : BlkOk X.N X.env.scope scope own)
    (hg : ∀ (s : Shared) (H : Hp) (C : Addr) (cl : List (Str × Addr)) (fp : List Addr), PG (X.blk s H scope (compEnvC scope cl C X.env) fp) tg g)
    (hc : ∀ (s : Shared) (H : Hp) (C : Addr) (cl : List (Str × Addr)) (fp : List Addr), PCs (X.blk s H scope (compEnvC scope cl C X.env) fp) ct WF T ifs cs)
    (he : ∀ (s : Shared) (H : Hp) (C : Addr) (cl : List (Str × Addr)) (fp : List Addr), PV (X.blk s H scope (compEnvC scope cl C X.env) fp) ct WF T elt c)
    (hs : ∀ x, foldedSetIterable iter X.env x = pure x := by intro _; rfl) :
    PSc X ct W T Pn (.Assign [.Name y py] (.ListComp elt [⟨tg, iter, ifs, 0⟩] scope pos) spos) (.asg [i] (.lc is sk src cs c)) := by
  subst hown
  refine PS.weak (ps_setLc (tt := tCs X ct WF T cs) (te := tV X ct WF T c) G.calm G.nd hy hyl hsw hi ok hg hc he hs) fun Q σ H z => ?_
  exact lc_run gb (asg_run gb1 z)
theorem r_par2 {i j : Nat} {y z : Str} {py pz pt : Pos} {kt k2 pt2} (G : XG X) (hi : X.N[i]? = some y) (hj : X.N[j]? = some z) (hij : i ≠ j)
    (hx : X.env.scope.names.lookup y = some .local) (hy : X.env.scope.names.lookup z = some .local) (hs : PFs X ct W T [e1, e2] [x1, x2])
    (hw : swappedStores [.Tuple [.Name y py, .Name z pz] kt pt] (.Tuple [e1, e2] k2 pt2) X.env = pure (some [y, z]) := by rfl)
    (hsw : swapsWithSole [.Tuple [.Name y py, .Name z pz] kt pt] (.Tuple [e1, e2] k2 pt2) pos.line X.env = pure false := by rfl) :
    PSc X ct W T Pn (.Assign [.Tuple [.Name y py, .Name z pz] kt pt] (.Tuple [e1, e2] k2 pt2) pos) (.par2 i j x1 x2) := PS.weak (ps_par G.calm G.nd hi hj hij hx hy hs hw hsw) fun Q σ H z => by
  obtain ⟨E, s, ce, eK, ec, rfl, w, z⟩ := z
  simp only [exec] at z
  refine tFs_ok eK ec w (z.bnd fun ds vs E1 s1 c st r w1 z1 => ?_)
  obtain ⟨rfl, r⟩ := r
  split at z1
  · rename_i d1 d2
    simp only [RTs] at r
    obtain ⟨v1, _, c1, c2, rfl, r1, ⟨v2, _, c3, c4, rfl, r2, ⟨rfl, rfl⟩, h4⟩, h3⟩ := r
    obtain ⟨rfl, rfl⟩ := cadd_z h3
    obtain ⟨rfl, _⟩ := cadd_z h4
    refine ⟨v1, v2, rfl, ?_⟩
    obtain ⟨ρ1, f1, b1, z2⟩ := bndT_ok z1
    obtain ⟨ρ2, f2, b2, z3⟩ := bndT_ok z2
    cases b1
    cases b2
    have w2 : Wd E1 (σ.set i (some v1)) ⟨s1.ρ.set i (some d1), s1.μ⟩ ce := Wd.over (c := cz) i w1 r1
    have w3 : Wd E1 ((σ.set i (some v1)).set j (some v2)) ⟨(s1.ρ.set i (some d1)).set j (some d2), s1.μ⟩ ce := Wd.over (c := cz) (s := ⟨s1.ρ.set i (some d1), s1.μ⟩) j w2 r2
    refine (z3.up ?_ (Step.refl _ _)).ret_nx w3
    exact (Pin.wipe (σ' := σ.set i (some v1)) (is := [i]) (by simp [L2.wipe]) f1).trans (Pin.wipe (is := [j]) (by simp [L2.wipe]) f2)
  · exact (show False from z1).elim
theorem r_ex (h : PV X ct W T e x) (hs : swapsWith e none pos.line X.env = pure false := by rfl) : PSc X ct W T Pn (.Expr e pos) (.ex x) := PS.weak (ps_expr h hs) fun Q σ H z => by
  obtain ⟨E, s, ce, eK, ec, rfl, w, z⟩ := z
  simp only [exec] at z
  exact ⟨E, s, ce, eK, ec, rfl, w, z.bnd fun d v E1 s1 c st r w1 z1 => z1.ret_nx (w1.less fun p => by simp only [cadd]; omega)⟩
theorem r_ret (h : PV X ct W T e x) : PSc X ct W T Pn (.Return (some e) pos) (.ret x) := PS.weak (ps_ret h) fun Q σ H z => by
  obtain ⟨E, s, ce, eK, ec, rfl, w, z⟩ := z
  simp only [exec] at z
  refine ⟨E, s, ce, eK, ec, rfl, w, z.bnd fun d v E1 s1 c st r w1 z1 => ?_⟩
  rw [RS.ok (show M.ret (Fl.rt d) s1 = some (.ok (.rt d) s1) from rfl)] at z1
  exact z1 σ E1 Pin.refl (Step.refl _ _) v c r w1
theorem tst_run {σ : L2.St} {E : Hw} {s : VS} {ce : Cn} {Q : Ends} {f : Bool → M Fl} {R : Bool → Hp → Prop} (eK : E.K = X.K) (ec : E.ct = ct) (w : Wd E σ s ce) (z : RS W Pn ((ev T x).bnd (tst f)) σ E s ce Q)
    (k : ∀ (b : Bool) (E1 : Hw) (s1 : VS), Step E ce E1 → Wd E1 σ s1 ce → RS W Pn (f b) σ E1 s1 ce Q → R b E1.H) : tT X ct W T x σ E.H R := by
  refine ⟨E, s, ce, eK, ec, rfl, w, z.bnd fun d v E1 s1 c st r w1 z1 => ?_⟩
  cases d <;> first | exact (show False from z1).elim | skip
  rename_i b
  obtain ⟨rfl, rfl⟩ := RTbl rfl r
  exact ⟨b, rfl, k b E1 s1 st w1 z1⟩
theorem r_if (hc : PTc X ct W T e x) (ha : PSq X ct W T Pn a ca) (hb : PSq X ct W T Pn b cb) : PSc X ct W T Pn (.If e a b pos) (.ite x ca cb) := PS.weak (ps_if hc ha hb) fun Q σ H z => by
  obtain ⟨E, s, ce, eK, ec, rfl, w, z⟩ := z
  simp only [exec] at z
  refine tst_run eK ec w z fun k E1 s1 st w1 z1 => ?_
  cases k with
  | true => exact iteT ⟨E1, s1, ce, st.k.trans eK, st.ct.trans ec, rfl, w1, z1⟩
  | false => exact iteF ⟨E1, s1, ce, st.k.trans eK, st.ct.trans ec, rfl, w1, z1⟩
theorem r_for {sk : Sk} {src : List Ex} {iter : Expr} (G : XG X) (hp : PassesOwn (model X.prog X.w) X.A X.env X.xe) (hi : PIs X ct W T tg iter sk src) (hg : PG X tg g) (gb : GB X.K g is) (ha : PSq X ct W T Pn a ca)
    (hs : ∀ x, foldedSetIterable iter X.env x = pure x := by intro _; rfl) : PSc X ct W T Pn (.For tg iter a [] pos) (.for is sk src ca) := PS.weak (ps_for hp G.calm hi hg ha hs) fun Q σ H z => by
  obtain ⟨E, s, ce, eK, ec, rfl, w, z⟩ := z
  simp only [exec] at z
  refine ⟨E, s, ce, eK, ec, rfl, w, z.bnd fun items J E1 s1 c st r w1 z1 => ?_⟩
  replace z1 := z1.exOf
  obtain ⟨rfl, GG, Y, wk, sv⟩ := r
  refine for_it wk (fun i σ H => ∃ (E2 : Hw) (s2 : VS), E2.H = H ∧ Step E1 ce E2 ∧ Wd E2 σ s2 ce ∧ RS W Pn (forM Pn is (execs T Pn ca) (items.drop i)) σ E2 s2 ce Q) ⟨E1, s1, rfl, Step.refl _ _, w1, z1⟩
    (fun i σ H hi ⟨E2, s2, eH, st2, w2, _⟩ => ?_) (fun i x σ H H' hi ⟨E2, s2, eH, st2, w2, z2⟩ y => ?_) (fun σ H ⟨E2, s2, eH, st2, w2, z2⟩ => ?_)
  · subst eH
    exact (sv E2 (st2.less fun p h => absurd rfl h) w2.same).1
  · subst eH
    have hd : items[i]? = some items[i] := by simp [hi]
    obtain ⟨E3, n3, eH3, rx⟩ := (sv E2 (st2.less fun p h => absurd rfl h) w2.same).2 i x H' items[i] hd y
    subst eH3
    rw [List.drop_eq_getElem_cons hi, forM] at z2
    obtain ⟨ρ, hf, hb, z3⟩ := bndT_ok z2
    have w3 : Wd E3 σ s2 ce := w2.new (c := cz) n3 (fun _ => Nat.zero_le _) fun p h => absurd rfl h
    have st3 : Step E1 ce E3 := st2.trans (n3.step _)
    refine gb E3 σ s2 ce cz items[i] x ρ _ (st3.k.trans (st.k.trans eK)) w3 rx hb fun σ' hw w4 => ?_
    refine ⟨E3, ⟨ρ, s2.μ⟩, ce, st3.k.trans (st.k.trans eK), st3.ct.trans (st.ct.trans ec), rfl, w4, ?_⟩
    exact (z3.up (Pin.wipe hw hf) (n3.step _)).loop fun σ5 E5 s5 p5 st5 w5 z5 => ⟨E5, s5, rfl, st3.trans st5, w5, z5⟩
  · subst eH
    rw [List.drop_length, forM] at z2
    exact z2.ret_nx w2
end
end VI
namespace VI
open PySem L2 PyProof.Rows
section
variable {E : Hw} {σ : L2.St} {s : VS} {ce : Cn}
theorem RE.nones {E : Hw} : ∀ {ρ : List (Option D)} {σ : L2.St}, ρ.length = σ.length → (∀ (i : Nat) (d : D), ρ[i]? ≠ some (some d)) → RE E ρ σ cz
  | [], [], _, _ => by simp [RE]
  | [], _ :: _, l, _ => by simp at l
  | _ :: _, [], l, _ => by simp at l
  | none :: ρ, x :: σ, l, h => by
    simp only [RE]
    exact ⟨x, σ, rfl, RE.nones (by simpa using l) fun i d e => h (i + 1) d (by simpa using e)⟩
  | some d :: ρ, x :: σ, l, h => absurd rfl (h 0 d)
theorem RE.sub {E : Hw} : ∀ {ρ ρ' : List (Option D)} {σ σ' : L2.St} {c : Cn}, RE E ρ σ c → ρ'.length = σ'.length → (∀ (i : Nat) (d : D), ρ'[i]? = some (some d) → ρ[i]? = some (some d) ∧ σ'[i]? = σ[i]?) → ∃ c', (∀ p, c' p ≤ c p) ∧ RE E ρ' σ' c'
  | [], ρ', _, σ', c, _, l, h => ⟨cz, fun _ => Nat.zero_le _, RE.nones l fun i d e => by have := (h i d e).1; simp at this⟩
  | _ :: _, [], _, [], c, _, _, _ => ⟨cz, fun _ => Nat.zero_le _, by simp [RE]⟩
  | _ :: _, [], _, _ :: _, c, _, l, _ => by simp at l
  | _ :: _, _ :: _, _, [], c, _, l, _ => by simp at l
  | none :: ρ, o :: ρ', _, y :: σ', c, re, l, h => by
    simp only [RE] at re
    obtain ⟨x, σ, rfl, re⟩ := re
    obtain ⟨c', le, q⟩ := RE.sub (ρ' := ρ') (σ' := σ') re (by simpa using l) fun i d e => by simpa using h (i + 1) d (by simpa using e)
    cases o with
    | none => exact ⟨c', le, by simp only [RE]; exact ⟨y, σ', rfl, q⟩⟩
    | some d => have := (h 0 d rfl).1; simp at this
  | some d0 :: ρ, o :: ρ', _, y :: σ', c, re, l, h => by
    simp only [RE] at re
    obtain ⟨v, σ, c1, c2, rfl, r, re, rfl⟩ := re
    obtain ⟨c', le, q⟩ := RE.sub (ρ' := ρ') (σ' := σ') re (by simpa using l) fun i d e => by simpa using h (i + 1) d (by simpa using e)
    cases o with
    | none => exact ⟨c', fun p => by have := le p; simp only [cadd]; omega, by simp only [RE]; exact ⟨y, σ', rfl, q⟩⟩
    | some d =>
      obtain ⟨h1, h2⟩ := h 0 d rfl
      simp only [List.getElem?_cons_zero, Option.some.injEq] at h1 h2
      subst h1
      subst h2
      exact ⟨cadd c1 c', fun p => by have := le p; simp only [cadd]; omega, by simp only [RE]; exact ⟨v, σ', c1, c', rfl, r, q, rfl⟩⟩
theorem Wd.sub {ρ' : List (Option D)} {σ' : L2.St} (w : Wd E σ s ce) (l : ρ'.length = σ'.length) (h : ∀ (i : Nat) (d : D), ρ'[i]? = some (some d) → s.ρ[i]? = some (some d) ∧ σ'[i]? = σ[i]?) : Wd E σ' ⟨ρ', s.μ⟩ ce := by
  obtain ⟨c1, c2, re, rm, t, f⟩ := w.own
  obtain ⟨c', le, q⟩ := re.sub l h
  exact ⟨w.same, ⟨c', c2, q, rm, fun p => by have := t p; have := le p; omega, fun p z => f p (by have := le p; omega)⟩, w.ex⟩
end
def outs (n : Nat) (Pn : List Nat) (ρ : List (Option D)) : List (Option D) := (List.range n).map fun i => if i ∈ Pn then (ρ[i]?).join else none
def runR (n : Nat) (Pn : List Nat) : Option (Res Fl) → Option CR
  | some (.ok .nx s) => some (.ok .non (outs n Pn s.ρ) s.μ)
  | some (.ok (.rt d) s) => some (.ok d (outs n Pn s.ρ) s.μ)
  | some (.ex x s) => some (.ex x (outs n Pn s.ρ) s.μ)
  | _ => none
def runF (T : Tab) (n nN : Nat) (Pn : List Nat) (body : List Sm) (ds : List D) (μ : List RO) : Option CR :=
  if ds.length = n then runR n Pn (execs T Pn body ⟨ds.map some ++ List.replicate (nN - n) none, μ⟩) else none
theorem runF_len {T : Tab} {n nN : Nat} {Pn : List Nat} {body : List Sm} : ∀ ds μ r, runF T n nN Pn body ds μ = some r → ds.length = n := fun ds μ r h => by
  unfold runF at h
  split at h
  · assumption
  · cases h
theorem outs_wd {E : Hw} {σ σ' : L2.St} {s : VS} {ce : Cn} {n : Nat} {Pn : List Nat} {vs : List V} {l : L2.St} (hl : vs.length = n) (hs : σ = vs.map some ++ l) (w : Wd E σ' s ce) (p : Pin Pn σ σ') : Wd E (vs.map some) ⟨outs n Pn s.ρ, s.μ⟩ ce := by
  refine w.sub (by simp [outs, hl]) fun i d e => ?_
  unfold outs at e
  rw [List.getElem?_map] at e
  by_cases hi : i < n
  · rw [show (List.range n)[i]? = some i by rw [List.getElem?_range hi]] at e
    simp only [Option.map_some, Option.some.injEq] at e
    split at e
    · rename_i hp
      refine ⟨?_, ?_⟩
      · cases q : s.ρ[i]? with
        | none => rw [q] at e; cases e
        | some o => rw [q] at e; simp only [Option.join_some] at e; rw [e]
      · rw [p i hp, hs, List.getElem?_append_left (by simpa [hl] using hi)]
    · cases e
  · rw [show (List.range n)[i]? = none by rw [List.getElem?_eq_none]; simpa using hi] at e
    cases e
section
variable {P : Program} {w : World} {K : PySem.W.Frag} {mg : Str → Option Value} {base : Heap} {ct : CT} {T : Tab}
theorem fn_okV {x qual : Str} {params : Arguments} {stmts : List Stmt} {scope : Scope} {f : Addr} {fd : FuncData} {N ps : List Str} {k n nN : Nat} {Pn : List Nat} {body : List Sm} (F : FunD K x qual params stmts scope [] [] f fd) (S : FnScope N ps scope) (hn : ps.length = n) (hN : N.length = nN)
    (hbody : ∀ (cdv : Value) (A : Around) (outer : List Env) (s : Shared) (H : Hp) (E : XK), Room k (A.deeper (envOfC qual scope s.heap.objs.size f cdv)) →
      PSq (cxOf (L2.CX P w) P w K mg base N qual scope f cdv A outer s H E) ct (fun cls d _ H => E cls d H) T Pn stmts body) :
    FnOk P w K mg base (L2.CX P w) (k + 1) f fd ps (spV K ct n (runF T n nN Pn body)) := by
  refine F.ok S (fun vs H Q E h => (spV_len vs H Q E h).trans hn.symm) fun cdv A outer s H vs Q E hr hsp => ⟨_, hbody cdv A outer s H E hr, ?_⟩
  obtain ⟨Ew, ds, μ, ce, eK, ec, eH, hl, wd, z⟩ := hsp
  have hds : ds.length = n := by
    obtain ⟨c1, c2, re, _⟩ := wd.own
    have := re.length
    simp only [List.length_map] at this
    omega
  have w0 : Wd Ew (L2.start N vs) ⟨ds.map some ++ List.replicate (nN - n) none, μ⟩ ce := by
    refine Wd.sub wd (by simp [L2.start, hds, hl, hN]) fun i d e => ?_
    by_cases hi : i < n
    · rw [List.getElem?_append_left (by simpa [hds] using hi)] at e
      exact ⟨e, by unfold L2.start; rw [List.getElem?_append_left (by simpa [hl] using hi)]⟩
    · rw [List.getElem?_append_right (by simpa [hds] using hi)] at e
      rw [List.getElem?_replicate] at e
      split at e <;> cases e
  refine ⟨Ew, _, ce, eK, ec, eH, w0, ?_⟩
  simp only [runF, hds, if_true] at z
  generalize hq : execs T Pn body ⟨ds.map some ++ List.replicate (nN - n) none, μ⟩ = q at z
  cases q with
  | none => exact z.elim
  | some r =>
    cases r with
    | ex x1 s1 =>
      rw [RS.exc hq]
      exact fun cls d σ' E' p st r w1 => z cls d E' st r (outs_wd hl rfl w1 p)
    | ok fl s1 =>
      rw [RS.ok hq]
      intro σ' E' p st
      cases fl with
      | nx => exact fun w1 => z .non E' cz st rt_non (outs_wd hl rfl w1 p)
      | rt d => exact fun v c r w1 => z v E' c st r (outs_wd hl rfl w1 p)
      | bk => exact z.elim
      | ct => exact z.elim
def Dg (P : Program) (w : World) (K : PySem.W.Frag) (mg : Str → Option Value) (base : Heap) (ct : CT) (k : Nat) (fa : Addr) (n : Nat) (m : List D → List RO → Option CR) : Prop :=
  ∃ (fd : FuncData) (ps : List Str), FnOk P w K mg base (L2.CX P w) k fa fd ps (spV K ct n m) ∧ (∀ ds μ r, m ds μ = some r → ds.length = n) ∧ PySem.W.keepIn K (.ref fa) = true ∧ Binds K fd ps []
theorem dg_of {x qual : Str} {params : Arguments} {stmts : List Stmt} {scope : Scope} {f : Addr} {fd : FuncData} {N ps : List Str} {k n nN : Nat} {Pn : List Nat} {body : List Sm} (F : FunD K x qual params stmts scope [] [] f fd) (S : FnScope N ps scope) (hn : ps.length = n) (hN : N.length = nN)
    (hb : Binds K fd ps [])
    (hbody : ∀ (cdv : Value) (A : Around) (outer : List Env) (s : Shared) (H : Hp) (E : XK), Room k (A.deeper (envOfC qual scope s.heap.objs.size f cdv)) →
      PSq (cxOf (L2.CX P w) P w K mg base N qual scope f cdv A outer s H E) ct (fun cls d _ H => E cls d H) T Pn stmts body) :
    Dg P w K mg base ct (k + 1) f n (runF T n nN Pn body) := ⟨fd, ps, fn_okV F S hn hN hbody, fun ds μ r h => runF_len ds μ r h, F.kp, hb⟩
theorem df_of {X : Cx} {f : Nat} {fa : Addr} {n k j : Nat} {m : List D → List RO → Option CR} (h : Dg X.prog X.w X.K X.mg X.base ct k fa n m) (hm : T.call f = m) (hr : Room j X.A) (hk : k ≤ j) : Df X ct T f fa n := by
  obtain ⟨fd, ps, h1, h2, h3, h4⟩ := h
  subst hm
  exact ⟨k, fd, ps, h1, h2, hr.mono hk, h3, h4⟩
theorem xg_of {X : Cx} {j : Nat} (hc : X.calm = true) (hN : X.N.Nodup) (hr : Room j X.A) : XG X := ⟨hc, hN, by have := hr.un; omega⟩
def spL (K : PySem.W.Frag) (n : Nat) : Sp := fun vs H Q _ => ∃ (a : Addr) (ns : List Int), vs = [.ref a] ∧ ns.length ≤ n ∧ SqL K H a (ns.map V.int) ∧ ∀ H', Q (.bl true) H'
theorem law_okV {x qual : Str} {params : Arguments} {stmts : List Stmt} {scope : Scope} {f : Addr} {fd : FuncData} {N : List Str} {p : Str} {k nN nl : Nat} {body : List Sm} (F : FunD K x qual params stmts scope [] [] f fd) (S : FnScope N [p] scope) (hN : N.length = nN)
    (hbody : ∀ (cdv : Value) (A : Around) (outer : List Env) (s : Shared) (H : Hp) (E : XK), Room k (A.deeper (envOfC qual scope s.heap.objs.size f cdv)) →
      PSq (cxOf CX0 P w K mg base N qual scope f cdv A outer s H E) ct (fun _ _ _ _ => False) T [] stmts body)
    (plain : ∀ ns : List Int, ns.length ≤ nl → ∃ s, execs T [] body ⟨some (.scr ns) :: List.replicate (nN - 1) none, []⟩ = some (.ok (.rt (.bl true)) s)) :
    FnOk P w K mg base CX0 (k + 1) f fd [p] (spL K nl) := by
  refine F.ok S (fun vs H Q E h => ?_) fun cdv A outer s H vs Q E hr hsp => ⟨_, hbody cdv A outer s H E hr, ?_⟩
  · obtain ⟨a, ns, rfl, _⟩ := h
    rfl
  obtain ⟨a, ns, rfl, hl, hS, hQ⟩ := hsp
  obtain ⟨s1, e⟩ := plain ns hl
  refine ⟨⟨K, ct, H, H, []⟩, ⟨some (.scr ns) :: List.replicate (nN - 1) none, []⟩, cz, rfl, rfl, rfl, ⟨fun _ _ h => h, ⟨cz, cz, ?_, ⟨rfl, rfl⟩, fun _ => Nat.zero_le _, fun p h => absurd rfl h⟩, fun p h => absurd rfl h⟩, ?_⟩
  · show RE _ _ (some (V.ref a) :: List.replicate (N.length - 1) none) cz
    rw [hN]
    simp only [RE]
    refine ⟨.ref a, _, cz, cz, rfl, ?_, RE.nones (by simp) fun i d h => ?_, rfl⟩
    · simp only [RT]
      exact ⟨trivial, a, rfl, hS⟩
    · rw [List.getElem?_replicate] at h
      split at h <;> cases h
  · rw [RS.ok e]
    intro σ' E' _ _ v c r _
    simp only [RT] at r
    obtain ⟨rfl, _⟩ := r
    exact hQ E'.H
end
theorem mp_setl {xs ds : List D} {o' d : D} (h : Mp.fn .setl (.lst true xs) ds = some (o', d)) : ∃ e k j, ds = [e, .int k] ∧ ixN xs.length k = some j ∧ o' = .lst true (xs.set j e) ∧ d = .non := by
  unfold Mp.fn at h
  split at h <;> try contradiction
  rename_i ds' e k h1 h2
  obtain ⟨j, hj, e'⟩ := Option.map_eq_some_iff.mp h
  cases h2
  cases e'
  exact ⟨_, _, j, rfl, hj, rfl, rfl⟩
section
variable {X : Cx} {ct : CT} {W : WX} {T : Tab} {Pn : List Nat} {o ke e : Expr} {k x : Ex} {i : Nat} {pos pos' : Pos}
theorem set_go {m : Mp} {σ : L2.St} {H : Hp} {Q : Ends} (z : tS X ct W Pn (exec T Pn (.setS m i k x)) Q σ H) : tV X ct W T (.mt m (.var i) [x, k]) σ H fun _ H' => Q.nx σ H' := by
  obtain ⟨E, s, ce, eK, ec, rfl, w, z⟩ := z
  simp only [exec] at z
  exact ⟨E, s, ce, eK, ec, rfl, w, z.bnd fun d v E1 s1 c st r w1 z1 => z1.ret_nx (w1.less fun p => by simp only [cadd]; omega)⟩
theorem r_setl (ho : PE X o (tVar i)) (hk : PV X ct W T ke k) (h : PV X ct W T e x) (hs : swapsWithSole [.Subscript o ke pos'] e pos.line X.env = pure false := by rfl) (hw : swappedStores [.Subscript o ke pos'] e X.env = pure none := by rfl)
    (h1 : (assignEach [.Subscript o ke pos'] X.env).map (·.2) = [assign (.Subscript o ke pos') X.env] := by rfl)
    (ha : ∀ v, assign (.Subscript o ke pos') X.env v = (do
      let ov ← holding [v] (eval o X.env)
      let iv ← holding [v, ov] (eval ke X.env)
      standAt pos'
      holding [v, ov, iv] (setItem ov iv v)
      release [v, ov, iv] []) := by intro _; rfl) :
    PSc X ct W T Pn (.Assign [.Subscript o ke pos'] e pos) (.setS .setl i k x) := PS.weak (ps_asg (pf_of h) (pg_sub ho (pf_of hk) set_list ha) hs hw h1) fun Q σ H z => by
  obtain ⟨v, e, ⟨E0, o0, c0, rfl, hs0, r0, hk0⟩, q⟩ := mt_run (set_go z)
  refine Run.mono q fun y H1 q1 => ⟨v, e, Run.mono q1 fun u H2 ⟨E, s, ce, o, ds, o', d, eH, w, e3, rd, hf, kk⟩ => ?_⟩
  subst eH
  obtain ⟨xs, rfl⟩ := mp_lst (by decide) (h := hf)
  obtain ⟨de, n, j, rfl, hj, rfl, rfl⟩ := mp_setl hf
  obtain ⟨l, ys, c', e4, hH, rt, kp⟩ := w.wlst e3
  rw [e] at e4
  cases e4
  simp only [RTs] at rd
  obtain ⟨y1, _, cy, c2, e5, ry, ⟨y2, _, c3, c4, e6, r2, ⟨e7, rfl⟩, h4⟩, h3⟩ := rd
  subst e7
  cases e6
  cases e5
  obtain ⟨rfl, rfl⟩ := cadd_z h3
  simp only [RT] at r2
  obtain ⟨rfl, rfl⟩ := r2
  obtain ⟨c'', rd', le⟩ := rts_set j rt ry
  obtain ⟨st, wd, _⟩ := kp _ _ c'' rd' le
  exact ⟨l, ys, n, j, rfl, rfl, hH, by rw [← rt.length]; exact hj, kk .non _ st rt_non wd⟩
end
end VI
namespace VI
open PySem L2 PyProof.Rows
section
variable {X : Cx} {ct : CT} {W : WX} {T : Tab} {Pn : List Nat} {e a b d : Expr} {rest : List Expr} {c ca cb cd : Ex} {p q : Pr} {pos pos' : Pos} {x : Str}
def PWc (X : Cx) (ct : CT) (W : WX) (T : Tab) (e : Expr) (c : Ex) : Prop := PW X e (tT X ct W T c)
theorem PW.weak {t t' : TT} (h : PW X e t) (w : ∀ σ H Q, t' σ H Q → t σ H Q) : PW X e t' := ⟨fun wh pins s σ H Q I q => h.run wh pins s σ H Q I (w σ H Q q)⟩
theorem ptc_w (h : PWc X ct W T e c) : PTc X ct W T e c := PW.pt h
theorem pwc_and1 (h : PTc X ct W T a ca) : PWc X ct W T (.BoolOp .And [a] pos) ca := pw_and1 h
theorem pwc_and (h : PTc X ct W T a ca) (h' : PWc X ct W T (.BoolOp .And (b :: rest) pos) cb) : PWc X ct W T (.BoolOp .And (a :: b :: rest) pos) (.and ca cb) := PW.weak (pw_and h h') fun σ H Q z => by
  obtain ⟨E, s, ce, eK, ec, rfl, w, z⟩ := z
  simp only [ev] at z
  refine ⟨E, s, ce, eK, ec, rfl, w, z.bnd fun d v E1 s1 c st r w1 z1 => ?_⟩
  cases d <;> first | exact (show False from z1).elim | skip
  rename_i k
  obtain ⟨rfl, rfl⟩ := RTbl rfl r
  refine ⟨k, rfl, ?_⟩
  cases k with
  | true => exact iteT (Run.mk (st.k.trans eK) (st.ct.trans ec) w1 z1)
  | false =>
    obtain ⟨k, e, q⟩ := z1.ret (Step.refl _ _) rt_bl w1
    cases e
    exact iteF q
theorem ptc_no (h : PTc X ct W T a ca) : PTc X ct W T (.UnaryOp .Not a pos) (.not ca) := ptc_not h fun ta h => pt_not h
theorem ptc_val (h : PV X ct W T e c) (he : ∀ whole, isTrue e X.env whole = (do let v ← whole; standAt e.pos; holding [v] (truthy v)) := by intro _; rfl) : PTc X ct W T e c := pt_of (pt_val h he)
end
end VI
namespace VI
open PySem L2 PyProof.Rows
section
variable {X : Cx} {ct : CT} {W : WX} {T : Tab} {Pn : List Nat} {e a b d o : Expr} {rest : List Expr} {c ca cb cd : Ex} {p q : Pr} {pos pos' : Pos} {x f C : Str} {op op' : CmpOp} {i : Nat}
def PCq (X : Cx) (ct : CT) (T : Tab) (op : CmpOp) (a b : Expr) (c : Ex) : Prop := PC X op a b (tQ X ct T c)
def PCv (X : Cx) (ct : CT) (W : WX) (T : Tab) (op : CmpOp) (a b : Expr) (c : Ex) : Prop := PC X op a b (tV X ct W T c)
theorem PC.weak {t t' : TE} (h : PC X op a b t) (w : ∀ σ H Q, t' σ H Q → t σ H Q) : PC X op a b t' := ⟨fun pins s σ H Q I q => h.run pins s σ H Q I (w σ H Q q)⟩
theorem pc_op {r : R2} {ta tb : TE} (ho : OpR X (compareOp op) r) (ha : PE X a ta) (hb : PE X b tb) : PC X op a b (tOp r ta tb) :=
  ⟨fun pins s σ H Q I h => binT ha hb I h fun v u s2 x y H2 I2 rx ry q => ho pins s2 σ H2 x y v u Q I2 rx ry q⟩
theorem q_of (h : PCq X ct T op a b c) (h1 : behindInMarks op b = false := by first | exact nomark _ | rfl) : PQ X ct T (.Compare a [op] [b] pos) c := pe_cmp h h1
theorem g_of (h : PCv X ct W T op a b c) (h1 : behindInMarks op b = false := by first | exact nomark _ | rfl) : PV X ct W T (.Compare a [op] [b] pos) c := pe_cmp h h1
theorem t_of (h : PCv X ct W T op a b c) (h1 : behindInMarks op b = false := by first | exact nomark _ | rfl) : PTc X ct W T (.Compare a [op] [b] pos) c := pt_of (pt_cmp h h1)
theorem kv_q (h : PCq X ct T op a b c) (hq : isQ c = true := by rfl) : PCv X ct W T op a b c := PC.weak h fun σ H Q z => imp_q hq z
theorem k_cmp (o : OpR X (compareOp op) (fun x y H Q => PR X.K ct p [x, y] H Q)) (ha : PQ X ct T a ca) (hb : PQ X ct T b cb) (hq : p.quiet = true := by rfl) : PCq X ct T op a b (.pr p [ca, cb]) := PC.weak (pc_op o ha hb) fun σ H Q z => imp_pq hq z
theorem kv_cmp (o : OpR X (compareOp op) (fun x y H Q => PR X.K ct p [x, y] H Q)) (ha : PA1 X ct W T a ca) (hb : PA1 X ct W T b cb) (h1 : (p.quiet && isQs [ca, cb]) = false := by rfl) : PCv X ct W T op a b (.pr p [ca, cb]) := PC.weak (pc_op o ha hb) fun σ H Q z => imp_pv h1 z
end
end VI
namespace VI
open PySem L2 PyProof.Rows
theorem rts_putF {E : Hw} {f : Str} {d : D} {y : V} {c : Cn} (r : RT E d y c) : ∀ {fs : List (Str × V)} {ds : List D} {c1 : Cn}, RTs E ds (fs.map (·.2)) c1 →
    ∃ c', (∀ p, c' p ≤ c1 p + c p) ∧ (putF f y fs).map (·.1) = (putFd (fs.map (·.1)) ds f d).1 ∧ RTs E (putFd (fs.map (·.1)) ds f d).2 ((putF f y fs).map (·.2)) c'
  | [], [], c1, h => by
    simp only [List.map_nil, RTs] at h
    refine ⟨cadd c cz, fun p => by simp only [cadd, cz]; omega, rfl, ?_⟩
    simp only [putF, putFd, List.map_cons, List.map_nil, RTs]
    exact ⟨y, [], c, cz, rfl, r, ⟨rfl, rfl⟩, rfl⟩
  | [], _ :: _, c1, h => by simp [RTs] at h
  | _ :: _, [], c1, h => by simp [RTs] at h
  | (g, x) :: fs, d0 :: ds, c1, h => by
    simp only [List.map_cons, RTs] at h
    obtain ⟨v1, vs, c2, c3, e, r0, q, rfl⟩ := h
    cases e
    by_cases hg : g = f
    · simp only [putF, putFd, List.map_cons, hg, if_true, RTs]
      exact ⟨cadd c c3, fun p => by simp only [cadd]; omega, by simp, y, _, c, c3, rfl, r, q, rfl⟩
    · obtain ⟨c', le, e1, q'⟩ := rts_putF r q
      simp only [putF, putFd, List.map_cons, hg, if_false, RTs]
      exact ⟨cadd c2 c', fun p => by have := le p; simp only [cadd]; omega, by rw [e1], x, _, c2, c', rfl, r0, q', rfl⟩
theorem RM.put {E : Hw} : ∀ {μ : List RO} {A : List Addr} {c : Cn} {k : Nat} {r : RO} {a : Addr}, RM E μ A c → μ[k]? = some r → A[k]? = some a → ∃ dx fs c1 c0, E.H a = some (.ins (E.ct r.cls) dx fs) ∧ fs.map (·.1) = r.fn ∧ RTs E r.ds (fs.map (·.2)) c1 ∧ c = cadd (one a) (cadd c1 c0) ∧
    ∀ (E' : Hw) (r' : RO) (dx' : Addr) (fs' : List (Str × V)) (c1' : Cn), Step E c0 E' → E'.H a = some (.ins (E'.ct r'.cls) dx' fs') → fs'.map (·.1) = r'.fn → RTs E' r'.ds (fs'.map (·.2)) c1' → RM E' (μ.set k r') A (cadd (one a) (cadd c1' c0))
  | [], _, _, _, _, _, _, e, _ => by simp at e
  | r0 :: μ, _, _, 0, r, a, h, e, e' => by
    simp only [RM] at h
    obtain ⟨a0, A', dx, fs, c1, c2, rfl, q, z, t, m, rfl⟩ := h
    simp only [List.getElem?_cons_zero, Option.some.injEq] at e e'
    subst e
    subst e'
    refine ⟨dx, fs, c1, c2, q, z, t, rfl, fun E' r' dx' fs' c1' st q' z' t' => ?_⟩
    simp only [List.set_cons_zero, RM]
    exact ⟨a0, A', dx', fs', c1', c2, rfl, q', z', t', RM.mono st m, rfl⟩
  | r0 :: μ, _, _, k + 1, r, a, h, e, e' => by
    simp only [RM] at h
    obtain ⟨a0, A', dx, fs, c1, c2, rfl, q, z, t, m, rfl⟩ := h
    rw [List.getElem?_cons_succ] at e e'
    obtain ⟨dx2, fs2, c3, c4, q2, z2, t2, ec, kk⟩ := RM.put m e e'
    refine ⟨dx2, fs2, c3, cadd (one a0) (cadd c1 c4), q2, z2, t2, by subst ec; funext p; simp only [cadd]; omega, fun E' r' dx' fs' c1' st q' z' t' => ?_⟩
    have m' := kk E' r' dx' fs' c1' (st.less fun p h => by simp only [cadd]; omega) q' z' t'
    simp only [List.set_cons_succ, RM]
    refine ⟨a0, A', dx, fs, c1, cadd (one a) (cadd c1' c4), rfl, ?_, z, RTs.mono _ (st.less fun p h => by simp only [cadd]; omega) t, m', by funext p; simp only [cadd]; omega⟩
    rw [st.ct]
    exact st.h a0 _ (by simp [cadd, one]) q
theorem Wd.fput {E : Hw} {σ : L2.St} {s : VS} {ce c : Cn} {d : D} {y : V} {k : Nat} {r : RO} {a : Addr} (f : Str) (w : Wd E σ s (cadd ce c)) (rd : RT E d y c) (hr : s.μ[k]? = some r) (ha : E.A[k]? = some a) :
    ∃ dx fs, E.H a = some (.ins (E.ct r.cls) dx fs) ∧ fs.length = r.fn.length ∧ Step E ce { E with H := upd E.H a (.ins (E.ct r.cls) dx (putF f y fs)) } ∧
      Wd { E with H := upd E.H a (.ins (E.ct r.cls) dx (putF f y fs)) } σ ⟨s.ρ, s.μ.set k (VI.fput r f d)⟩ ce := by
  obtain ⟨c1, c2, re, rm, t, fz⟩ := w.own
  obtain ⟨dx, fs, c3, c0, q, z, ts, rfl, kk⟩ := rm.put hr ha
  simp only [cadd] at t fz
  have ta := t a
  simp only [show one a a = 1 by simp [one]] at ta
  have hs : ∀ c : Cn, c a = 0 → Step E c { E with H := upd E.H a (.ins (E.ct r.cls) dx (putF f y fs)) } := fun c hc => ⟨rfl, rfl, fun _ _ h => h, ⟨[], by simp⟩, fun b o z y => by
    show upd E.H a _ b = some o
    rw [upd_ne (fun e => z (by rw [e]; exact hc))]
    exact y⟩
  obtain ⟨c', le, e1, q'⟩ := rts_putF (f := f) rd ts
  refine ⟨dx, fs, q, by rw [← z, List.length_map], hs ce (by omega), ⟨fun p o h => ?_, ⟨c1, _, RE.mono (hs c1 (by omega)) re, kk _ (VI.fput r f d) dx (putF f y fs) c' (hs c0 (by omega)) upd_same (by rw [e1, z]; rfl) ?_, fun p => ?_, fun p h => ?_⟩, fun p h => ?_⟩⟩
  · show upd E.H a _ p = some o
    rw [upd_ne (fun e => by
      rw [e] at h
      rw [fz a (by simp [one])] at h
      cases h)]
    exact w.same p o h
  · rw [z] at q'
    exact RTs.mono _ (hs c' (by have := le a; omega)) q'
  · have := t p
    have := le p
    simp only [cadd]
    omega
  · have := le p
    simp only [cadd] at h
    exact fz p (by omega)
  · show upd E.H a _ p ≠ none
    by_cases e : p = a
    · rw [e, upd_same]; exact fun z => nomatch z
    · rw [upd_ne e]; exact w.ex p (by simp only [cadd]; omega)
end VI
namespace VI
open PySem L2 PyProof.Rows
section
variable {X : Cx} {ct : CT} {W : WX} {T : Tab} {Pn : List Nat} {e a b d : Expr} {es rest : List Expr} {c ca cb cd : Ex} {cs : List Ex} {p q : Pr} {pos pos' p2 p3 : Pos} {x y : Str} {i : Nat}
theorem un_negV : UnR X (unaryOp .USub) (fun x H Q => PR X.K ct .neg [x] H Q) := fun pins s σ H x v Q I rx h => by
  obtain ⟨E, ds, d, eK, rfl, rfl, hs, hx, hf, k⟩ := h.q rfl
  obtain ⟨a, ca, rfl, ra⟩ := rx1 hx
  cases a <;> first | (cases hf; done) | skip
  cases hf
  exact un_neg pins s σ _ x v Q I rx ⟨_, ra.int, k _ rt_int⟩
theorem q_neg (ha : PQ X ct T a ca) : PQ X ct T (.UnaryOp .USub a pos) (.pr .neg [ca]) := pq_pr (PE.weak (pe_un un_negV ha) fun σ H Q z => z) rfl
theorem vt (hN : X.N[i]? = some x := by rfl) (hv : Vis X.env.scope x := by first | exact .inl rfl | exact .inr (.inl rfl) | exact .inr (.inr rfl)) (hd : (x == ("__debug__" : Str)) = false := by decide) (hcd : (x == ("__classdict__" : Str)) = false := by decide) : PE X (.Name x pos) (tVar i) := pe_var hN hv hd hcd
theorem vq (h : PE X (.Name x pos) (tVar i)) : PQ X ct T (.Name x pos) (.var i) := pq_var h
theorem vf (h : PE X (.Name x pos) (tVar i)) : PV X ct W T (.Name x pos) (.frv i) := pv_frv h
theorem vm (h : PE X (.Name x pos) (tVar i)) : PV X ct W T (.Name x pos) (.mov i) := pv_mov h
theorem va (h : PE X (.Name x pos) (tVar i)) : PA1 X ct W T (.Name x pos) (.var i) := pa_var h
theorem ki {n : Int} {j} : PQ X ct T (.Constant (.int n) j pos) (.con (.int n)) := pq_con rfl pe_int
theorem ks {n : Str} {j} : PQ X ct T (.Constant (.str n) j pos) (.con (.str n)) := pq_con rfl pe_str
theorem kb {n : Bool} {j} : PQ X ct T (.Constant (.bool n) j pos) (.con (.bl n)) := pq_con rfl pe_bl
theorem kn {j} : PQ X ct T (.Constant .none j pos) (.con .non) := pq_con rfl pe_non
def _root_.VI.Tab.ext (T : Tab) (i : Nat) (m : List D → List RO → Option CR) : Tab := { T with call := fun j => if j = i then m else T.call j }
theorem gq (h : PQ X ct T e c) (hq : isQ c = true := by rfl) : PV X ct W T e c := pv_q h hq
theorem ag (h : PV X ct W T e c) (hc : ∀ i, c ≠ .var i := by exact fun _ h => nomatch h) : PA1 X ct W T e c := pa_of h hc
theorem aq (h : PQ X ct T e c) (hq : isQ c = true := by rfl) (hc : ∀ i, c ≠ .var i := by exact fun _ h => nomatch h) : PA1 X ct W T e c := pa_of (pv_q h hq) hc
theorem gg (h : PV X ct W T e c) (hc : ∀ i, c ≠ .io i := by exact fun _ h => nomatch h) : PG1 X ct W T e c := pg_of h hc
theorem bb_len : bootBuiltins "len" = some (.builtin "len") := by decide +kernel
theorem bb_int : bootBuiltins "int" = some (.type "int") := by decide +kernel
theorem bb_abs : bootBuiltins "abs" = some (.builtin "abs") := by decide +kernel
theorem bb_list : bootBuiltins "list" = some (.type "list") := by decide +kernel
theorem bb_str : bootBuiltins "str" = some (.type "str") := by decide +kernel
theorem q_len (hm : X.mg "len" = none) (ha : PQ X ct T a ca) (hg : Gl X "len" := by rfl) (he : starEach [a] X.env = (false, eval a X.env) :: starEach [] X.env := by rfl) : PQ X ct T (.Call (.Name "len" pos') [a] [] pos) (.pr .len [ca]) := q_call1 (f := .none) c_len hg hm bb_len ha rfl (by decide) (by decide) he
theorem q_abs (hm : X.mg "abs" = none) (ha : PQ X ct T a ca) (hg : Gl X "abs" := by rfl) (he : starEach [a] X.env = (false, eval a X.env) :: starEach [] X.env := by rfl) : PQ X ct T (.Call (.Name "abs" pos') [a] [] pos) (.pr .abs [ca]) := q_call1 (f := .none) c_abs hg hm bb_abs ha rfl (by decide) (by decide) he
theorem q_int (hm : X.mg "int" = none) (ha : PQ X ct T a ca) (hg : Gl X "int" := by rfl) (he : starEach [a] X.env = (false, eval a X.env) :: starEach [] X.env := by rfl) : PQ X ct T (.Call (.Name "int" pos') [a] [] pos) (.pr .int1 [ca]) := q_callT c_int hg hm bb_int ha rfl (by decide) (by decide) he
theorem q_str (hm : X.mg "str" = none) (ha : PQ X ct T a ca) (hg : Gl X "str" := by rfl) (he : starEach [a] X.env = (false, eval a X.env) :: starEach [] X.env := by rfl) : PQ X ct T (.Call (.Name "str" pos') [a] [] pos) (.pr .str1 [ca]) := q_callT c_str hg hm bb_str ha rfl (by decide) (by decide) he
theorem g_list (hm : X.mg "list" = none) (ha : PA1 X ct W T a ca) (hg : Gl X "list" := by rfl) (he : starEach [a] X.env = (false, eval a X.env) :: starEach [] X.env := by rfl) : PV X ct W T (.Call (.Name "list" pos') [a] [] pos) (.pr .list [ca]) := g_callT c_list hg hm bb_list ha (by rfl) (by decide) (by decide) he
theorem sl10 (ha : PA1 X ct W T a ca) (hb : PV X ct W T b cb) : PV X ct W T (.Subscript a (.Slice (some b) none none p2) pos) (.slc ca [cb] []) := g_sl ha (po_some hb) po_none (.inr ⟨_, rfl, rfl⟩) (.inl ⟨rfl, rfl⟩)
theorem sl01 (ha : PA1 X ct W T a ca) (hb : PV X ct W T b cb) : PV X ct W T (.Subscript a (.Slice none (some b) none p2) pos) (.slc ca [] [cb]) := g_sl ha po_none (po_some hb) (.inl ⟨rfl, rfl⟩) (.inr ⟨_, rfl, rfl⟩)
theorem tg1 (G : XG X) (hN : X.N[i]? = some x := by rfl) (hx : Loc X.env.scope x := by first | exact .inl rfl | exact .inr rfl) (hf : X.fn x = true ∨ X.env.scope.names.lookup x = some .local := by first | exact .inl rfl | exact .inr rfl) : PG X (.Name x pos) (gName i) := pg_name G.nd hN hx hf
theorem tg2 {k j : Nat} (G : XG X) (h1 : PG X a (gName i)) (h2 : PG X b (gName j)) (hs : (assignEach [a, b] X.env).map (·.2) = assign a X.env :: (assignEach [b] X.env).map (·.2) := by rfl) (hs2 : (assignEach [b] X.env).map (·.2) = assign b X.env :: (assignEach [] X.env).map (·.2) := by rfl)
    (hn : (assignEach [a, b] X.env).length = 2 := by rfl) (hst : (assignEach [a, b] X.env).findIdx? (·.1) = none := by rfl) : PG X (.Tuple [a, b] k pos) (gTup X.K 2 (gCons (gName i) (gCons (gName j) gNil))) := pg_tup G.calm (L2.pgs_cons h1 (L2.pgs_cons h2 L2.pgs_nil hs2) hs) hn hst
theorem xg_blk {s : Shared} {H : Hp} {sc : Scope} {env : Env} {fp : List Addr} (G : XG X) : XG (X.blk s H sc env fp) := ⟨G.calm, G.nd, G.hu⟩
end
end VI
namespace VI
open PySem L2 PyProof.Rows VN
theorem XG.h9 {X : Cx} (G : XG X) : X.A.units + 9 < cLine := by have := G.hu; omega
end VI
namespace VI
open PySem L2 PyProof.Rows
section
variable {X : Cx} {ct : CT} {W : WX} {T : Tab} {e a b o : Expr} {es : List Expr} {c ca q : Ex} {cs : List Ex} {f : Nat} {x m C : Str} {fa : Addr} {n : Nat} {p pos apos : Pos}
theorem RM.length {E : Hw} : ∀ {μ : List RO} {A : List Addr} {c : Cn}, RM E μ A c → A.length = μ.length
  | [], _, _, h => by simp only [RM] at h; rw [h.1]; rfl
  | r :: μ, _, _, h => by
    simp only [RM] at h
    obtain ⟨a, A', dx, fs, c1, c2, rfl, q, z, t, m, rfl⟩ := h
    rw [List.length_cons, List.length_cons, RM.length m]
theorem RM.snoc {E : Hw} {x dx : Addr} {C : Str} (hx : E.H x = some (.ins (E.ct C) dx [])) : ∀ {μ : List RO} {A : List Addr} {c : Cn}, RM E μ A c → RM E (μ ++ [⟨C, [], []⟩]) (A ++ [x]) (cadd c (one x))
  | [], _, _, h => by
    simp only [RM] at h
    obtain ⟨rfl, rfl⟩ := h
    simp only [List.nil_append, RM]
    exact ⟨x, [], dx, [], cz, cz, rfl, hx, rfl, by simp [RTs], ⟨rfl, rfl⟩, by funext p; simp [cadd, cz]⟩
  | r :: μ, _, _, h => by
    simp only [RM] at h
    obtain ⟨a, A', dx', fs, c1, c2, rfl, q, z, t, m, rfl⟩ := h
    simp only [List.cons_append, RM]
    exact ⟨a, A' ++ [x], dx', fs, c1, cadd c2 (one x), rfl, q, z, t, RM.snoc hx m, by funext p; simp only [cadd]; omega⟩
end
end VI
namespace VI
open PySem L2 PyProof.Rows
section
variable {X : Cx} {ct : CT} {W : WX} {T : Tab} {e a b o : Expr} {es : List Expr} {c ca q : Ex} {cs : List Ex} {f : Nat} {x m C : Str} {fa : Addr} {n : Nat} {p pos apos : Pos} {pos' : Pos}
def Hw.lend (E : Hw) (c : Cn) : Hw := { E with F := fun p => if c p = 0 then E.F p else E.H p }
end
end VI
namespace VI
open PySem L2 PyProof.Rows
structure Sim (E E' : Hw) (d : Addr) : Prop where
  k : E'.K = E.K
  ct : E'.ct = E.ct
  a : E'.A = E.A
  f : ∀ a, a ≠ d → E'.F a = E.F a
  h : ∀ a, a ≠ d → E'.H a = E.H a
  d0 : ∃ kvs, Rd E.F d (.dK kvs) ∧ Rd E'.F d (.dK kvs)
theorem Sim.ne {E E' : Hw} {d a : Addr} {o : HO} (s : Sim E E' d) (e : E.F a = some o) (n1 : ∀ kvs, o ≠ .dK kvs) (n2 : ∀ od kvs, o ≠ .frz od (.dK kvs)) : a ≠ d := fun z => by
  subst z
  obtain ⟨kvs, h1, _⟩ := s.d0
  rcases h1 with h1 | ⟨od, h1⟩
  · rw [e] at h1; exact n1 _ (Option.some.inj h1)
  · rw [e] at h1; exact n2 _ _ (Option.some.inj h1)
theorem Sim.get {E E' : Hw} {d a : Addr} {o : HO} (s : Sim E E' d) (e : E.F a = some o) (n1 : ∀ kvs, o ≠ .dK kvs) (n2 : ∀ od kvs, o ≠ .frz od (.dK kvs)) : E'.F a = some o := by
  rw [s.f a (s.ne e n1 n2)]
  exact e
theorem Sim.rd {E E' : Hw} {d a : Addr} {kvs : List (Key × V)} (s : Sim E E' d) (e : Rd E.F a (.dK kvs)) : Rd E'.F a (.dK kvs) := by
  by_cases h : a = d
  · subst h
    obtain ⟨kvs', h1, h2⟩ := s.d0
    have : kvs' = kvs := by
      rcases h1 with h1 | ⟨o1, h1⟩ <;> rcases e with e | ⟨o2, e⟩ <;> rw [e] at h1 <;> cases h1 <;> rfl
    subst this
    exact h2
  · rcases e with e | ⟨o, e⟩
    · exact .inl (by rw [s.f a h]; exact e)
    · exact .inr ⟨o, by rw [s.f a h]; exact e⟩
theorem Sim.sqL {E E' : Hw} {d a : Addr} {vs : List V} (s : Sim E E' d) (e : SqL E.K E.F a vs) : SqL E'.K E'.F a vs := by
  rcases e with (e | ⟨o, e⟩) | e
  · exact .inl (.inl (s.get e (fun _ z => nomatch z) (fun _ _ z => nomatch z)))
  · exact .inl (.inr ⟨o, s.get e (fun _ z => nomatch z) (fun _ _ z => by cases z)⟩)
  · exact .inr (by rw [s.k]; exact e)
mutual
theorem RT.sim {E E' : Hw} {p : Addr} (s : Sim E E' p) : ∀ (d : D) {v : V} {c : Cn}, c p = 0 → RT E d v c → RT E' d v c
  | .non, _, _, _, h => by simpa [RT] using h
  | .bl _, _, _, _, h => by simpa [RT] using h
  | .int _, _, _, _, h => by simpa [RT] using h
  | .str _, _, _, _, h => by simpa [RT] using h
  | .lst false ds, _, _, z, h => by
    simp only [RT] at h ⊢
    obtain ⟨rfl, a, vs, e, q, r⟩ := h
    exact ⟨rfl, a, vs, e, s.get q (fun _ z => nomatch z) (fun _ _ z => nomatch z), RTs.sim s ds rfl r⟩
  | .lst true ds, _, _, z, h => by
    simp only [RT] at h ⊢
    obtain ⟨a, vs, c', e, q, r, rfl⟩ := h
    simp only [cadd, one] at z
    have hne : a ≠ p := fun y => by subst y; simp at z
    exact ⟨a, vs, c', e, by rw [s.h a hne]; exact q, RTs.sim s ds (by omega) r, rfl⟩
  | .tup ds, _, _, z, h => by
    simp only [RT] at h ⊢
    obtain ⟨a, vs, e, q, r⟩ := h
    exact ⟨a, vs, e, s.get q (fun _ z => nomatch z) (fun _ _ z => nomatch z), RTs.sim s ds z r⟩
  | .dic false ks ds, _, _, z, h => by
    simp only [RT] at h ⊢
    obtain ⟨rfl, a, kvs, e, q, y, r⟩ := h
    exact ⟨rfl, a, kvs, e, s.rd q, y, RTs.sim s ds rfl r⟩
  | .dic true ks ds, _, _, z, h => by
    simp only [RT] at h ⊢
    obtain ⟨a, kvs, c', e, q, y, r, rfl⟩ := h
    simp only [cadd, one] at z
    have hne : a ≠ p := fun y => by subst y; simp at z
    exact ⟨a, kvs, c', e, by rw [s.h a hne]; exact q, y, RTs.sim s ds (by omega) r, rfl⟩
  | .ins C fn ds, _, _, z, h => by
    simp only [RT] at h ⊢
    obtain ⟨rfl, a, dx, fs, e, q, y, r⟩ := h
    rw [s.ct]
    exact ⟨rfl, a, dx, fs, e, s.get q (fun _ z => nomatch z) (fun _ _ z => nomatch z), y, RTs.sim s ds rfl r⟩
  | .dicN false ks ds, _, _, z, h => by
    simp only [RT] at h ⊢
    obtain ⟨rfl, a, kvs, e, q, y, n, r⟩ := h
    rw [s.ct]
    exact ⟨rfl, a, kvs, e, s.get q (fun _ z => nomatch z) (fun _ _ z => nomatch z), y, n.keep fun b ys hb => s.get hb (fun _ z => nomatch z) (fun _ _ z => nomatch z), RTs.sim s ds rfl r⟩
  | .dicN true ks ds, _, _, z, h => by
    simp only [RT] at h ⊢
    obtain ⟨a, kvs, c', e, q, y, n, r, rfl⟩ := h
    simp only [cadd, one] at z
    have hne : a ≠ p := fun y => by subst y; simp at z
    rw [s.ct]
    exact ⟨a, kvs, c', e, by rw [s.h a hne]; exact q, y, n.keep fun b ys hb => s.get hb (fun _ z => nomatch z) (fun _ _ z => nomatch z), RTs.sim s ds (by omega) r, rfl⟩
  | .ref k, _, _, z, h => by
    simp only [RT] at h ⊢
    rw [s.a]
    exact h
  | .scr ns, _, _, z, h => by
    simp only [RT] at h ⊢
    obtain ⟨rfl, a, e, q⟩ := h
    exact ⟨rfl, a, e, s.sqL q⟩
  | .exc C fn ds, _, _, z, h => by
    simp only [RT] at h ⊢
    obtain ⟨a, d, fs, e, q, x, y, r⟩ := h
    rw [s.ct]
    refine ⟨a, d, fs, e, s.get q (fun _ z => nomatch z) (fun _ _ z => nomatch z), ?_, y, RTs.sim s ds z r⟩
    rcases x with x | ⟨dd, x, w⟩
    · exact .inl x
    · exact .inr ⟨dd, x, s.get w (fun _ z => nomatch z) (fun _ _ z => nomatch z)⟩
theorem RTs.sim {E E' : Hw} {p : Addr} (s : Sim E E' p) : ∀ (ds : List D) {vs : List V} {c : Cn}, c p = 0 → RTs E ds vs c → RTs E' ds vs c
  | [], _, _, _, h => by simpa [RTs] using h
  | d :: ds, _, _, z, h => by
    simp only [RTs] at h ⊢
    obtain ⟨v, vs', c1, c2, e, r, q, rfl⟩ := h
    simp only [cadd] at z
    exact ⟨v, vs', c1, c2, e, RT.sim s d (by omega) r, RTs.sim s ds (by omega) q, rfl⟩
end
theorem RE.sim {E E' : Hw} {p : Addr} (s : Sim E E' p) : ∀ {ρ : List (Option D)} {σ : L2.St} {c : Cn}, c p = 0 → RE E ρ σ c → RE E' ρ σ c
  | [], _, _, _, h => h
  | none :: ρ, _, _, z, h => by
    simp only [RE] at h ⊢
    obtain ⟨x, σ', e, r⟩ := h
    exact ⟨x, σ', e, RE.sim s z r⟩
  | some d :: ρ, _, _, z, h => by
    simp only [RE] at h ⊢
    obtain ⟨v, σ', c1, c2, e, r, q, rfl⟩ := h
    simp only [cadd] at z
    exact ⟨v, σ', c1, c2, e, RT.sim s d (by omega) r, RE.sim s (by omega) q, rfl⟩
theorem RM.sim {E E' : Hw} {p : Addr} (s : Sim E E' p) : ∀ {μ : List RO} {A : List Addr} {c : Cn}, c p = 0 → RM E μ A c → RM E' μ A c
  | [], _, _, _, h => h
  | r :: μ, _, _, z, h => by
    simp only [RM] at h ⊢
    obtain ⟨a, A', dx, fs, c1, c2, e, q, y, t, m, rfl⟩ := h
    simp only [cadd, one] at z
    have hne : a ≠ p := fun y => by subst y; simp at z
    refine ⟨a, A', dx, fs, c1, c2, e, ?_, y, RTs.sim s _ (by omega) t, RM.sim s (by omega) m, rfl⟩
    rw [s.ct, s.h a hne]
    exact q
theorem Sim.wd {E E' : Hw} {p : Addr} {σ : L2.St} {s : VS} {ce : Cn} (m : Sim E E' p) (hs : ∀ a o, E'.F a = some o → E'.H a = some o) (w : Wd E σ s ce) : Wd E' σ s ce := by
  obtain ⟨c1, c2, re, rm, t, f⟩ := w.own
  have hF : E.F p ≠ none := fun z => by
    obtain ⟨kvs, h1, _⟩ := m.d0
    rcases h1 with h1 | ⟨_, h1⟩ <;> rw [z] at h1 <;> cases h1
  have hp : c1 p + c2 p + ce p = 0 := Classical.byContradiction fun z => hF (f p z)
  refine ⟨hs, ⟨c1, c2, RE.sim m (by omega) re, by rw [m.a]; exact RM.sim m (by omega) rm, t, fun q n => ?_⟩, fun q n => ?_⟩
  · by_cases h : q = p
    · subst h; exact absurd hp n
    · rw [m.f q h]; exact f q n
  · have h : q ≠ p := fun z => by subst z; omega
    rw [m.h q h]
    exact w.ex q n
def Hw.lk (E : Hw) (d : Addr) (o : HO) : Hw := { E with F := upd E.F d o, H := upd E.H d o }
theorem lk_same {E : Hw} {d : Addr} {o : HO} (hs : ∀ a o, E.F a = some o → E.H a = some o) : ∀ a u, (E.lk d o).F a = some u → (E.lk d o).H a = some u := fun a u e => by
  by_cases h : a = d
  · subst h
    have e : upd E.F a o a = some u := e
    show upd E.H a o a = some u
    rw [upd_same] at e ⊢
    exact e
  · have e : upd E.F d o a = some u := e
    show upd E.H d o a = some u
    rw [upd_ne h] at e ⊢
    exact hs a u e
theorem lk_sim {E : Hw} {d : Addr} {o : HO} {kvs : List (Key × V)} (h1 : Rd E.F d (.dK kvs)) (h2 : o = .dK kvs ∨ ∃ od, o = .frz od (.dK kvs)) : Sim E (E.lk d o) d :=
  ⟨rfl, rfl, rfl, fun a h => upd_ne h, fun a h => upd_ne h, kvs, h1, by
    rcases h2 with rfl | ⟨od, rfl⟩
    · exact .inl upd_same
    · exact .inr ⟨od, upd_same⟩⟩
theorem lk_step {E E' : Hw} {d : Addr} {od : Obj} {kvs : List (Key × V)} {ce : Cn} (hF : E.F d = some (.dK kvs)) (hce : ce d = 0) (st : Step (E.lk d (.frz od (.dK kvs))) ce E') : Step E ce (E'.lk d (.dK kvs)) := by
  refine ⟨st.k, st.ct, fun a o e => ?_, st.a, fun a o n e => ?_⟩
  · by_cases h : a = d
    · subst h
      rw [hF] at e
      cases e
      exact upd_same
    · have := st.f a o (by show upd E.F d _ a = some o; rw [upd_ne h]; exact e)
      show upd E'.F d _ a = some o
      rw [upd_ne h]
      exact this
  · have h : a ≠ d := fun z => by subst z; exact n hce
    have := st.h a o n (by show upd E.H d _ a = some o; rw [upd_ne h]; exact e)
    show upd E'.H d _ a = some o
    rw [upd_ne h]
    exact this
def Unl (X : Cx) (P : Hp → Prop) (H' : Hp) : Prop := P H' ∨ ∃ d od kvs, H' d = some (.frz od (.dK kvs)) ∧ (∀ o' u', X.H_0 d ≠ some (.frz o' u')) ∧ P (upd H' d (.dK kvs))
def unlE (X : Cx) (D : Ends) : Ends := ⟨fun σ' H' => Unl X (D.nx σ') H', fun v H' => Unl X (D.rt v) H', fun σ' H' => Unl X (D.bk σ') H', fun σ' H' => Unl X (D.ct σ') H'⟩
end VI
namespace VI
open PySem L2 PyProof.Rows
section
variable {X : Cx} {ct : CT} {W : WX} {T : Tab} {Pn : List Nat} {elt tg iter : Expr} {a : List Stmt} {ifs : List Expr} {scope : Scope} {own : List (Str × Nat)} {pos : Pos} {cs : List Ex} {ca : List Sm} {c : Ex} {is : List Nat} {g : TG} {J : It} {items : List D} {H0 : Hp}
theorem Wd.zero {E : Hw} {σ : L2.St} {s : VS} {ce : Cn} {p : Addr} {o : HO} (w : Wd E σ s ce) (h : E.F p = some o) : ce p = 0 := by
  obtain ⟨c1, c2, _, _, _, f⟩ := w.own
  refine Classical.byContradiction fun z => ?_
  have := f p (by omega)
  rw [h] at this
  cases this
theorem RS.lk {m : M Fl} {σ : L2.St} {E : Hw} {s : VS} {ce : Cn} {Q : Ends} {d : Addr} {od : Obj} {kvs : List (Key × V)} (w : Wd E σ s ce) (hF : E.F d = some (.dK kvs)) (hn : ∀ o' u', X.H_0 d ≠ some (.frz o' u')) (z : RS W Pn (noEx m) σ E s ce Q) : RS W Pn m σ (E.lk d (.frz od (.dK kvs))) s ce (unlE X Q) := by
  cases e : m s with
  | none => rw [RS.non (show noEx m s = none by unfold noEx; rw [e])] at z; exact z.elim
  | some r =>
    cases r with
    | ex x s' => rw [RS.non (show noEx m s = none by unfold noEx; rw [e])] at z; exact z.elim
    | ok f s' =>
      rw [RS.ok (show noEx m s = some (.ok f s') by unfold noEx; rw [e])] at z
      rw [RS.ok e]
      intro σ' E' pin st
      have z := z σ' (E'.lk d (.dK kvs)) pin (lk_step hF (w.zero hF) st)
      have hF' : E'.F d = some (.frz od (.dK kvs)) := st.f d _ upd_same
      have sim : Sim E' (E'.lk d (.dK kvs)) d := lk_sim (.inr ⟨od, hF'⟩) (.inl rfl)
      cases f with
      | nx => exact fun w' => .inr ⟨d, od, kvs, w'.same _ _ hF', hn, z (sim.wd (lk_same w'.same) w')⟩
      | bk => exact fun w' => .inr ⟨d, od, kvs, w'.same _ _ hF', hn, z (sim.wd (lk_same w'.same) w')⟩
      | ct => exact fun w' => .inr ⟨d, od, kvs, w'.same _ _ hF', hn, z (sim.wd (lk_same w'.same) w')⟩
      | rt x => exact fun v c r w' => .inr ⟨d, od, kvs, w'.same _ _ hF', hn, z v c (RT.sim sim x (by have := w'.zero hF'; simp only [cadd] at this; omega) r) (sim.wd (lk_same w'.same) w')⟩
theorem RS.inl {m : M Fl} {σ : L2.St} {E : Hw} {s : VS} {ce : Cn} {Q : Ends} (z : RS W Pn m σ E s ce Q) : RS W Pn m σ E s ce (unlE X Q) := by
  cases e : m s with
  | none => rw [RS.non e] at z; exact z.elim
  | some r =>
    cases r with
    | ex x s' => rw [RS.exc e] at z ⊢; exact z
    | ok f s' =>
      rw [RS.ok e] at z ⊢
      intro σ' E' pin st
      have z := z σ' E' pin st
      cases f with
      | nx => exact fun w' => .inl (z w')
      | bk => exact fun w' => .inl (z w')
      | ct => exact fun w' => .inl (z w')
      | rt x => exact fun v c r w' => .inl (z v c r w')
theorem RA.lk {m : M D} {σ : L2.St} {E : Hw} {s : VS} {ce : Cn} {Q : VK} {d : Addr} {od : Obj} {kvs : List (Key × V)} (w : Wd E σ s ce) (hF : E.F d = some (.dK kvs)) (hn : ∀ o' u', X.H_0 d ≠ some (.frz o' u')) (hx : ∀ x s', m s ≠ some (.ex x s')) (z : RA W RT' m σ E s ce Q) :
    RA W RT' m σ (E.lk d (.frz od (.dK kvs))) s ce (fun v H' => Unl X (Q v) H') := by
  cases e : m s with
  | none => rw [RA.non e] at z; exact z.elim
  | some r =>
    cases r with
    | ex x s' => exact absurd e (hx x s')
    | ok x s' =>
      rw [RA.ok e] at z ⊢
      intro v E' c st r w'
      have hF' : E'.F d = some (.frz od (.dK kvs)) := st.f d _ upd_same
      have sim : Sim E' (E'.lk d (.dK kvs)) d := lk_sim (.inr ⟨od, hF'⟩) (.inl rfl)
      exact .inr ⟨d, od, kvs, w'.same _ _ hF', hn, z v (E'.lk d (.dK kvs)) c (lk_step hF (w.zero hF) st) (RT.sim sim x (by have := w'.zero hF'; simp only [cadd] at this; omega) r) (sim.wd (lk_same w'.same) w')⟩
end
end VI
namespace VI
open PySem L2 PyProof.Rows
section
variable {X : Cx} {ct : CT} {W : WX} {T : Tab} {Pn : List Nat} {tg iter : Expr} {elts : List Expr} {kk : Nat} {tpos p pos : Pos} {a : List Stmt} {ca : List Sm} {is : List Nat} {g : TG} {i : Nat} {m : M Fl} {σ : L2.St} {E : Hw} {s : VS} {ce : Cn} {Q : Ends}
theorem RS.pin (h : RS W Pn m σ E s ce Q) : RS W (i :: Pn) m σ E s ce Q := by
  have pp : ∀ {σ' : L2.St}, Pin (i :: Pn) σ σ' → Pin Pn σ σ' := fun q k hk => q k (List.mem_cons_of_mem _ hk)
  cases q : m s with
  | none => rw [RS.non q] at h; exact h.elim
  | some r =>
    cases r with
    | ex x s2 =>
      rw [RS.exc q] at h ⊢
      exact fun cls d σ2 E2 p2 st2 => h cls d σ2 E2 (pp p2) st2
    | ok fl s2 =>
      rw [RS.ok q] at h ⊢
      exact fun σ2 E2 p2 st2 => h σ2 E2 (pp p2) st2
end
end VI
namespace VI
open PySem L2 PyProof.Rows RZ PySem.W
section
variable {prog : Program} {w : World} {A : Around} {E : Value → Shared → Prop} {s : Shared} {z TI TO u1 u2 m1 m2 : Addr} {xs ys : Array Value}
theorem zh_end {T : Addr} {fl : Bool} {ot : Obj} {j1 j2 : Nat} {Q : Fin → Shared → Prop} (calm : A.handled = none) (dj : ZipApart z TI TO u1 u2 m1 m2)
    (gz : IsZipHeld s.heap z TI TO T fl) (gT : s.heap.get? T = some ot) (gI : PySem.IsPair s.heap TI (.ref u1) (.ref u2))
    (b1 : s.heap.IsTupleIter u1 m1 j1) (b2 : s.heap.IsTupleIter u2 m2 j2) (t1 : s.heap.IsTuple m1 xs) (t2 : s.heap.IsTuple m2 ys) (ends : xs[j1]? = none ∨ ys[j2]? = none)
    (fin : ∀ g e, (∀ c o, c ≠ z → c ≠ u1 → c ≠ u2 → s.heap.get? c = some o → g.get? c = some o) → (∃ o, g.get? e = some o ∧ o.cls = .type "StopIteration") → E (.ref e) { s with heap := g }) :
    wpAny (model prog w) A (Builtin.«zip.__next__» ⟨[.ref z], []⟩) Q E s := by
  show wpAny _ _ (field (.ref z) 2 >>= _) _ _ s; refine wpAny_bind (wpAny_field gz rfl (x := .bool false) rfl ?_)
  show wpAny _ _ (field (.ref z) 3 >>= _) _ _ s; refine wpAny_bind (wpAny_field gz rfl (x := .ref TI) rfl ?_)
  refine wpAny_bind (wpAny_seqItems gI rfl ?_); show wpAny _ _ (Builtin.SmallTypes.ownedTupleIsFree (.ref z) >>= _) _ _ s
  refine wpAny_bind (wpAny_tupleHeld_zip gz gT fun ha za sa => ?_); simp only [Bool.false_eq_true, if_false]
  refine wpAny_bind ?_; rw [← Array.forIn_toList]; simp only [List.forIn_cons, List.forIn_nil]
  refine wpAny_bind (wpAny_bind (wpAny_holding ?_)); show wpAny _ _ (Builtin.SmallTypes.nextOf (.ref u1) >>= _) _ _ _
  cases ex : xs[j1]? with
  | none =>
    refine wpAny_bind (nextOf_tuple_end (s := { s with heap := ha }) calm (b1.extBut sa.extBut dj.i1z) (t1.extBut sa.extBut dj.l1z) ex fun hb e sb he => ?_)
    exact fin hb e (fun c o q1 q2 _ x => sb _ _ q2 (sa.extBut _ _ q1 x)) he
  | some x =>
    have ey : ys[j2]? = none := ends.elim (fun q => by rw [ex] at q; cases q) id
    refine wpAny_bind (nextOf_tuple_item (s := { s with heap := ha }) (b1.extBut sa.extBut dj.i1z) (t1.extBut sa.extBut dj.l1z) ex fun hb ib sb => wpAny_pure ?_)
    refine wpAny_pure ?_; refine wpAny_bind (wpAny_bind (wpAny_holding ?_)); show wpAny _ _ (Builtin.SmallTypes.nextOf (.ref u2) >>= _) _ _ _
    refine wpAny_bind (nextOf_tuple_end (s := { s with heap := hb }) calm ((b2.extBut sa.extBut dj.i2z).extBut sb.extBut dj.i12.symm) ((t2.extBut sa.extBut dj.l2z).extBut sb.extBut dj.l2i1) ey fun hc e sc he => ?_)
    exact fin hc e (fun c o q1 q2 q3 x => sc _ _ q3 (sb.extBut _ _ q2 (sa.extBut _ _ q1 x))) he
theorem zn_end {T : Addr} {fl : Bool} {ot : Obj} {j1 j2 : Nat} {Q : Option Value → Shared → Prop} (calm : A.handled = none) (dj : ZipApart z TI TO u1 u2 m1 m2)
    (gz : IsZipHeld s.heap z TI TO T fl) (gT : s.heap.get? T = some ot) (gI : PySem.IsPair s.heap TI (.ref u1) (.ref u2))
    (b1 : s.heap.IsTupleIter u1 m1 j1) (b2 : s.heap.IsTupleIter u2 m2 j2) (t1 : s.heap.IsTuple m1 xs) (t2 : s.heap.IsTuple m2 ys) (ends : xs[j1]? = none ∨ ys[j2]? = none)
    (fin : ∀ g, (∀ c o, c ≠ z → c ≠ u1 → c ≠ u2 → s.heap.get? c = some o → g.get? c = some o) → Q none { s with heap := g }) : wpAny (model prog w) A (pyNext (.ref z)) Q E s := by
  have ty : s.TypeIs (.ref z) "zip" := ⟨_, gz, rfl⟩
  unfold pyNext
  refine wpAny_bind (wpAny_attempt (wpAny_callSpecial?_slot (name := Str.ofString "__next__") ty PySem.F.slot_zip_next (wpAny_call_entry PySem.F.slot_zip_next ty PySem.F.entry_zip_next
    (zh_end calm dj gz gT gI b1 b2 t1 t2 ends fun g e hk he => ?_) (PySem.F.args_zip_next_1 _))))
  obtain ⟨o, ho, hc⟩ := he
  exact wpAny_bind (wpAny_isInstance (T := "StopIteration") (b := true) ⟨o, ho, hc⟩ PySem.isSubtype_stop (wpAny_pure (fin _ hk)))
structure ZSt (h : Heap) (z TI TO u1 u2 m1 m2 S : Addr) (xs ys : Array Value) (k : Nat) : Prop where
  zp : (k = 0 ∧ IsZip h z TI TO .none) ∨ ∃ T ot fl, IsZipHeld h z TI TO T fl ∧ h.get? T = some ot ∧ T ≠ S ∧ T ≠ z ∧ T ≠ u1 ∧ T ≠ u2
  ti : PySem.IsPair h TI (.ref u1) (.ref u2)
  to : ∃ a b, PySem.IsPair h TO a b
  b1 : h.IsTupleIter u1 m1 k
  b2 : h.IsTupleIter u2 m2 k
  t1 : h.IsTuple m1 xs
  t2 : h.IsTuple m2 ys
theorem ZSt.keep {h g : Heap} {S : Addr} {k : Nat} (x : ZSt h z TI TO u1 u2 m1 m2 S xs ys k) (hk : ∀ b o, b ≠ S → h.get? b = some o → g.get? b = some o) (ns : z ≠ S ∧ TI ≠ S ∧ TO ≠ S ∧ u1 ≠ S ∧ u2 ≠ S ∧ m1 ≠ S ∧ m2 ≠ S) : ZSt g z TI TO u1 u2 m1 m2 S xs ys k := by
  obtain ⟨n1, n2, n3, n4, n5, n6, n7⟩ := ns
  obtain ⟨zp, ti, ⟨a, b, to⟩, b1, b2, t1, t2⟩ := x
  refine ⟨?_, hk _ _ n2 ti, ⟨a, b, hk _ _ n3 to⟩, b1.at fun o e => hk _ o n4 e, b2.at fun o e => hk _ o n5 e, t1.at fun o e => hk _ o n6 e, t2.at fun o e => hk _ o n7 e⟩
  rcases zp with ⟨e, q⟩ | ⟨T, ot, fl, q1, q2, q3⟩
  · exact .inl ⟨e, hk _ _ n1 q⟩
  · exact .inr ⟨T, ot, fl, hk _ _ n1 q1, hk _ _ q3.1 q2, q3⟩
theorem ZSt.done {S : Addr} {k : Nat} {Q : Option Value → Shared → Prop} (calm : A.handled = none) (dj : ZipApart z TI TO u1 u2 m1 m2) (st : ZSt s.heap z TI TO u1 u2 m1 m2 S xs ys k) (ends : xs[k]? = none ∨ ys[k]? = none)
    (fin : ∀ g, (∀ c o, c ≠ z → c ≠ TO → c ≠ u1 → c ≠ u2 → s.heap.get? c = some o → g.get? c = some o) → Q none { s with heap := g }) : wpAny (model prog w) A (pyNext (.ref z)) Q E s := by
  obtain ⟨zp, ti, ⟨a, b, to⟩, b1, b2, t1, t2⟩ := st
  rcases zp with ⟨_, q⟩ | ⟨T, ot, fl, q1, q2, q3⟩
  · exact pyNext_zipT_end calm dj q ti to b1 b2 t1 t2 ends fin
  · exact zn_end calm dj q1 q2 ti b1 b2 t1 t2 ends fun g hk => fin g fun c o h1 _ h3 h4 e => hk c o h1 h3 h4 e
structure ZPr (h : Heap) (lo : Addr) (xs ys : Array Value) (as : List Addr) : Prop where
  nd : as.Pairwise (· < ·)
  ab : ∀ a ∈ as, lo ≤ a
  pr : ∀ (j : Nat) (a : Addr), as[j]? = some a → ∃ x y, xs[j]? = some x ∧ ys[j]? = some y ∧ PySem.IsPair h a x y
theorem ZPr.there {h : Heap} {lo : Addr} {as : List Addr} (g : ZPr h lo xs ys as) {a : Addr} (ha : a ∈ as) : a < h.objs.size := by
  obtain ⟨j, hj⟩ := List.mem_iff_getElem?.mp ha
  obtain ⟨_, _, _, _, e⟩ := g.pr j a hj
  exact Heap.lt_size e
end
end VI
namespace VI
open PySem L2 PySem.Spec PyProof.Rows
theorem oexIn_ok {K : PySem.W.Frag} {C : Addr} (q : oexIn K C = true) : ∃ nm q N bs bm sn sub ab col dd k0 k1 k2 k3 k5, K.lookup C = some (excClassObj nm q C N bs bm true sn sub ab col dd k0 k1 k2 k3 k5 "ValueError.__new__") ∧ PySem.HandSPX.refsVE bm = true := by
  unfold oexIn at q
  split at q
  · rename_i dd cd sl ho
    split at q
    · rename_i C' bm k0 k1 k2 k3 n k5 hm hs
      simp only [Bool.and_eq_true, beq_iff_eq, Bool.not_eq_true'] at q
      obtain ⟨⟨⟨⟨rfl, rfl⟩, hdel⟩, hdc⟩, hv⟩ := q
      obtain ⟨nm, bs, mro, ns, qn, hd, sn, sub, ab, col, del⟩ := cd
      dsimp only at hm hdel hdc
      subst hm hdel hdc
      have hsl : sl = #[k0, k1, k2, k3, some (.builtin "ValueError.__new__"), k5] := by
        obtain ⟨l⟩ := sl
        simp only at hs
        rw [hs]
      subst hsl
      exact ⟨nm, qn, ns, bs, bm, sn, sub, ab, col, dd, k0, k1, k2, k3, k5, ho, hv⟩
    · cases q
  · cases q
structure XS (K : PySem.W.Frag) (C : Addr) : Prop where
  o : OexC K C
  x : ExcC K C
theorem xs_ok {K : PySem.W.Frag} {C : Addr} (h : xsIn K C = true) : XS K C := by
  simp only [xsIn, eqOO, Bool.and_eq_true, decide_eq_true_eq] at h
  obtain ⟨h1, h2, h3, h4, h5, h6, h7, h8, h9, h10, h11, h12⟩ := h
  exact ⟨⟨oexIn_ok h1, h2, h3, h4, h5⟩, ⟨h6, h7, h3, h8, h9, h10, h11, h12⟩⟩
structure BI (K : PySem.W.Frag) (S : Addr) : Prop where
  g : PySem.W.specialIn K (.ref S) "__getattribute__" = some (some (.builtin "type.__getattribute__"))
  r : PySem.W.readsIn K S (.type "type") = true
  f : PySem.W.findCls K (.ref S) (.type "type") "__init__" = some (.val (.builtin "ValueError.__init__"))
theorem bi_ok {K : PySem.W.Frag} {S : Addr} (h : biIn K S = true) : BI K S := by
  simp only [biIn, eqOO, Bool.and_eq_true, decide_eq_true_eq] at h
  obtain ⟨h1, h2, h3⟩ := h
  refine ⟨h1, h2, ?_⟩
  split at h3
  · rename_i n q
    simp only [beq_iff_eq] at h3
    rw [q, h3]
  · cases h3
def CEq (env : Env) (x : Str) (p1 p2 pos : Pos) (es : List Expr) : Prop := ∃ pl : Sem Bool, eval (.Call (.Attribute (.Name x p1) "__init__" p2) es [] pos) env = (do
      let ov ← eval (.Name x p1) env
      standAt p2.atName
      let (f, first) ← holding [ov] (getMethod ov "__init__" pl)
      callWith pos f first (backTo pos (starEach es env)) (backToKw pos (keywordEach [] env)))
section
variable {X : Cx} {e : Expr} {es : List Expr} {ta : TA} {x : Str} {S : Addr} {p1 p2 pos : Pos}
theorem pe_sinit (hg : Gl X x) (hm : X.mg x = some (.ref S)) (B : BI X.K S) (ha : PA X (e :: es) ta) (hdb : (x == ("__debug__" : Str)) = false) (hc : CEq X.env x p1 p2 pos (e :: es))
    (he : starEach (e :: es) X.env = (false, eval e X.env) :: starEach es X.env := by rfl) (hpl : (backTo pos (starEach es X.env)).any (·.1) = false := by rfl) :
    PE X (.Call (.Attribute (.Name x p1) "__init__" p2) (e :: es) [] pos) (tVeI X.K ta) := by
  refine ⟨fun pins s σ H Q I h => ?_⟩
  obtain ⟨pl, hc⟩ := hc
  refine PySem.W.methodCall_KW (ld_glob I hg hm ?_ hdb) hc
  refine PySem.W.method_cls I.kIn B.g (PySem.W.cls_value I.kIn B.r B.f (by decide +kernel) ?_)
  show wpAny _ _ (callWith pos (Value.builtin "ValueError.__init__") [] (backTo pos (starEach (e :: es) X.env)) []) _ _ _
  refine PyProof.Rows.callWith_method1 (thn (ha.run pos pins _ σ H _ (I.tok _) h) fun us s1 ⟨vs, H1, I1, r1, a, C, ws, ev, hl, T, ea, q⟩ => ?_) he hpl
  subst ev
  cases r1 with
  | @cons _ u0 _ ur ra rw' =>
    obtain rfl : u0 = Value.ref a := ra
    have hlen : ur.length ≤ sizeLine := by
      rw [← Paired.length rw', sizeLine_eq]
      omega
    exact oinit_ok T I1 ea hlen fun s' J => ⟨.non, H1, J, rfl, q⟩
end
def xfin (a C : Addr) (Q : VK) : List (Str × V) → Hp → Prop
  | [], H => Q .non H
  | f :: fs, H => ∀ d, H d = none → d ≠ a → Q .non (upd (upd H d (exd d (f :: fs))) a (exo a C (some d)))
def spF (C : Addr) (fn : List Str) : Sp := fun vs H Q _ => ∃ a ws, vs = .ref a :: ws ∧ ws.length = fn.length ∧ H a = some (exo a C none) ∧ xfin a C Q (fn.zip ws).reverse H
def spR (K : PySem.W.Frag) (C : Addr) (f : Str) : Sp := fun vs H Q _ => ∃ a p ys, vs = [.ref a, .ref p] ∧ (SqL K H p ys ∨ SqT K H p ys) ∧ H a = some (exo a C none) ∧ ∀ l, H l = none → xfin a C Q [(f, .ref l)] (upd H l (.lst ys))
section
variable {P : Program} {w : World} {K : PySem.W.Frag} {mg : Str → Option Value} {base : Heap} {x qual b t f g y z : Str} {params : Arguments} {scope : Scope} {fI C aB : Addr} {fd : FuncData} {k : Nat} {j : Nat} {p1 p2 p3 p4 p5 p6 q1 q2 q3 q4 r1 r2 r3 r4 r5 : Pos}
theorem init0 (F : FunD K x qual params [.Expr (.Call (.Attribute (.Name b p1) "__init__" p2) [.Name "self" p3, .Constant (.str t) j p4] [] p5) p6] scope [] [] fI fd) (S : FnScope ["self"] ["self"] scope)
    (hg : scope.names.lookup b = some .globalImplicit) (h0 : scope.names.lookup ("self" : Str) = some .local) (hm : mg b = some (.ref aB)) (B : BI K aB) (T : OexC K C) (hc : ∀ (L a : Addr) (cd : Value), CEq (envOfC qual scope L a cd) b p1 p2 p5 [.Name "self" p3, .Constant (.str t) j p4]) (hb : (b == ("__debug__" : Str)) = false := by decide) :
    FnOk P w K mg base (L2.CX P w) (k + 1) fI fd ["self"] (spF C []) := by
  refine F.ok S (fun vs H Q E h => ?_) fun cdv A outer s H vs Q E hr hsp => ⟨_, pss_cons (ps_expr (pe_sinit hg hm B (pa_cons (pe_var (i := 0) rfl (.inl h0)) (pa_cons pe_str pa_nil)) hb (hc _ _ _))) pss_nil, ?_⟩
  · obtain ⟨a, ws, rfl, e, _⟩ := h
    simp only [List.length_cons, e, List.length_nil]
  obtain ⟨a, ws, rfl, e, ea, hQ⟩ := hsp
  obtain rfl : ws = [] := List.length_eq_zero_iff.mp e
  exact ⟨.ref a, rfl, a, C, [.str t], rfl, (show 1 ≤ 1000 by decide), T, ea, hQ⟩
theorem init1 (F : FunD K x qual params [.Expr (.Call (.Attribute (.Name b p1) "__init__" p2) [.Name "self" p3, .Constant (.str t) j p4] [] p5) p6, .Assign [.Attribute (.Name "self" q1) f q2] (.Name y q3) q4] scope [] [] fI fd) (S : FnScope ["self", y] ["self", y] scope)
    (hg : scope.names.lookup b = some .globalImplicit) (h0 : scope.names.lookup ("self" : Str) = some .local) (h1 : scope.names.lookup y = some .local) (hm : mg b = some (.ref aB)) (B : BI K aB) (T : OexC K C) (hno : PySem.W.findIn K (.ref C) f = some none) (hc : ∀ (L a : Addr) (cd : Value), CEq (envOfC qual scope L a cd) b p1 p2 p5 [.Name "self" p3, .Constant (.str t) j p4]) (hb : (b == ("__debug__" : Str)) = false := by decide)
    (hy : (y == ("__debug__" : Str)) = false := by decide) (hy2 : (y == ("__classdict__" : Str)) = false := by decide) :
    FnOk P w K mg base (L2.CX P w) (k + 1) fI fd ["self", y] (spF C [f]) := by
  refine F.ok S (fun vs H Q E h => ?_) fun cdv A outer s H vs Q E hr hsp => ⟨_, pss_cons (ps_expr (pe_sinit hg hm B (pa_cons (pe_var (i := 0) rfl (.inl h0)) (pa_cons pe_str pa_nil)) hb (hc _ _ _))) (pss_cons (ps_ost (pe_var (i := 0) rfl (.inl h0)) (pe_var (i := 1) rfl (.inl h1) hy hy2)) pss_nil), ?_⟩
  · obtain ⟨a, ws, rfl, e, _⟩ := h
    simp only [List.length_cons, e, List.length_nil]
  obtain ⟨a, ws, rfl, e, ea, hQ⟩ := hsp
  match ws, e with
  | [u], _ =>
    exact ⟨.ref a, rfl, a, C, [.str t], rfl, (show 1 ≤ 1000 by decide), T, ea, u, rfl, .ref a, rfl, a, C, rfl, T, hno, .inl ⟨ea, fun d n ne => hQ d n ne⟩⟩
theorem init2 (F : FunD K x qual params [.Expr (.Call (.Attribute (.Name b p1) "__init__" p2) [.Name "self" p3, .Constant (.str t) j p4] [] p5) p6, .Assign [.Attribute (.Name "self" q1) f q2] (.Name y q3) q4, .Assign [.Attribute (.Name "self" r1) g r2] (.Name z r3) r4] scope [] [] fI fd) (S : FnScope ["self", y, z] ["self", y, z] scope)
    (hg : scope.names.lookup b = some .globalImplicit) (h0 : scope.names.lookup ("self" : Str) = some .local) (h1 : scope.names.lookup y = some .local) (h2 : scope.names.lookup z = some .local) (hm : mg b = some (.ref aB)) (B : BI K aB) (T : OexC K C)
    (hno : PySem.W.findIn K (.ref C) f = some none) (hno2 : PySem.W.findIn K (.ref C) g = some none) (hc : ∀ (L a : Addr) (cd : Value), CEq (envOfC qual scope L a cd) b p1 p2 p5 [.Name "self" p3, .Constant (.str t) j p4]) (hb : (b == ("__debug__" : Str)) = false := by decide)
    (hy : (y == ("__debug__" : Str)) = false := by decide) (hy2 : (y == ("__classdict__" : Str)) = false := by decide) (hz : (z == ("__debug__" : Str)) = false := by decide) (hz2 : (z == ("__classdict__" : Str)) = false := by decide) :
    FnOk P w K mg base (L2.CX P w) (k + 1) fI fd ["self", y, z] (spF C [f, g]) := by
  refine F.ok S (fun vs H Q E h => ?_) fun cdv A outer s H vs Q E hr hsp => ⟨_, pss_cons (ps_expr (pe_sinit hg hm B (pa_cons (pe_var (i := 0) rfl (.inl h0)) (pa_cons pe_str pa_nil)) hb (hc _ _ _))) (pss_cons (ps_ost (pe_var (i := 0) rfl (.inl h0)) (pe_var (i := 1) rfl (.inl h1) hy hy2)) (pss_cons (ps_ost (pe_var (i := 0) rfl (.inl h0)) (pe_var (i := 2) rfl (.inl h2) hz hz2)) pss_nil)), ?_⟩
  · obtain ⟨a, ws, rfl, e, _⟩ := h
    simp only [List.length_cons, e, List.length_nil]
  obtain ⟨a, ws, rfl, e, ea, hQ⟩ := hsp
  match ws, e with
  | [u, v], _ =>
    refine ⟨.ref a, rfl, a, C, [.str t], rfl, (show 1 ≤ 1000 by decide), T, ea, u, rfl, .ref a, rfl, a, C, rfl, T, hno, .inl ⟨ea, fun d n ne => ⟨v, rfl, .ref a, rfl, a, C, rfl, T, hno2, .inr ⟨d, [(f, u)], upd_same, ?_, (show 1 ≤ 900 by decide), ?_⟩⟩⟩⟩
    · rw [upd_ne ne, upd_same]
    · have q := hQ d n ne
      have eu : upd (upd (upd H d (exd d [(f, u)])) a (exo a C (some d))) d (exd d [(g, v), (f, u)]) = upd (upd H d (exd d [(g, v), (f, u)])) a (exo a C (some d)) := by
        funext c
        by_cases h1 : c = d
        · subst h1
          rw [upd_same, upd_ne ne, upd_same]
        · rw [upd_ne h1]
          by_cases h2 : c = a
          · rw [h2, upd_same, upd_same]
          · rw [upd_ne h2, upd_ne h1, upd_ne h2, upd_ne h1]
      show Q .non _
      rw [eu]
      exact q
theorem initR (F : FunD K x qual params [.Expr (.Call (.Attribute (.Name b p1) "__init__" p2) [.Name "self" p3, .Constant (.str t) j p4] [] p5) p6, .Assign [.Attribute (.Name "self" q1) f q2] (.Call (.Name "list" r1) [.Name y q3] [] r2) q4] scope [] [] fI fd) (S : FnScope ["self", y] ["self", y] scope)
    (hg : scope.names.lookup b = some .globalImplicit) (hl : scope.names.lookup ("list" : Str) = some .globalImplicit) (hml : mg "list" = none) (h0 : scope.names.lookup ("self" : Str) = some .local) (h1 : scope.names.lookup y = some .local) (hm : mg b = some (.ref aB)) (B : BI K aB) (T : OexC K C) (hno : PySem.W.findIn K (.ref C) f = some none) (hc : ∀ (L a : Addr) (cd : Value), CEq (envOfC qual scope L a cd) b p1 p2 p5 [.Name "self" p3, .Constant (.str t) j p4]) (hb : (b == ("__debug__" : Str)) = false := by decide)
    (hy : (y == ("__debug__" : Str)) = false := by decide) (hy2 : (y == ("__classdict__" : Str)) = false := by decide) :
    FnOk P w K mg base (L2.CX P w) (k + 1) fI fd ["self", y] (spR K C f) := by
  refine F.ok S (fun vs H Q E h => ?_) fun cdv A outer s H vs Q E hr hsp => ⟨_, pss_cons (ps_expr (pe_sinit hg hm B (pa_cons (pe_var (i := 0) rfl (.inl h0)) (pa_cons pe_str pa_nil)) hb (hc _ _ _))) (pss_cons (ps_ost (pe_var (i := 0) rfl (.inl h0)) (pe_callTy call_list_of hl hml bb_list (pa_cons (pe_var (i := 1) rfl (.inl h1) hy hy2) pa_nil))) pss_nil), ?_⟩
  · obtain ⟨a, p, ys, rfl, _⟩ := h
    rfl
  obtain ⟨a, p, ys, rfl, hS, ea, hQ⟩ := hsp
  refine ⟨.ref a, rfl, a, C, [.str t], rfl, (show 1 ≤ 1000 by decide), T, ea, .ref p, rfl, p, ys, rfl, hS, fun l hl' => ⟨.ref a, rfl, a, C, rfl, T, hno, .inl ⟨?_, fun d n ne => hQ l hl' d n ne⟩⟩⟩
  rw [upd_ne (fun e => by rw [e, hl'] at ea; cases ea)]
  exact ea
end
end VI
namespace L2
open PySem PySem.Spec PyProof.Rows
theorem exK_ok {P : Program} {w : World} {H : Hp} {h : Heap} {a : Addr} {cls : Value} {d : Option Addr} {oe : Obj} {vs : Array Value} (e : h.get? a = some oe) (z : Zc cls d oe) (hd : oe.data = .fields vs) : ObjOk P w H h a (VI.ExK cls d a) :=
  ⟨⟨oe, vs, e, z, hd⟩, ⟨oe, e⟩, fun _ _ ⟨o, v, q, r⟩ k => ⟨o, v, k o q, r⟩⟩
def tMkV (C : Addr) (sp : Sp) (ta : TA) : TE := fun σ H Q => ta σ H fun vs H1 => vs.length ≤ 1000 ∧ ∀ a, H1 a = none → sp (.ref a :: vs) (upd H1 a (exo a C none))
  (fun v H2 => v = .non ∧ ∃ (d : Addr) (fs : List (Str × V)), H2 a = some (exo a C (some d)) ∧ H2 d = some (exd d fs) ∧ H1 d = none ∧ Q (.ref a) (upd (upd (del H2 a) d (.xd fs)) a (VI.ExK (.ref C) (some d) a))) (fun _ _ _ => False)
section
variable {X : Cx} {e : Expr} {es : List Expr} {ta : TA} {p pos : Pos}
theorem pe_oex {CX : CXT} {x : Str} {C fI : Addr} {k : Nat} {fd : FuncData} {ps : List Str} {sp : Sp} (T : OexC X.K C) (iC : PySem.W.findIn X.K (.ref C) "__init__" = some (some (.ref fI))) (tI : PySem.W.typeIn X.K (.ref fI) = some (.type "function"))
    (F1 : FnOk X.prog X.w X.K X.mg X.base CX k fI fd ps sp) (hr : Room (k + 1) X.A) (hb : Binds X.K fd ps []) (hx : Passes CX X (fun _ _ _ => False)) (hg : Gl X x) (hm : X.mg x = some (.ref C)) (ha : PA X (e :: es) ta)
    (hdb : (x == ("__debug__" : Str)) = false := by decide) (he : starEach (e :: es) X.env = (false, eval e X.env) :: starEach es X.env := by rfl) (hpl : (backTo pos (starEach es X.env)).any (·.1) = false := by rfl) :
    PE X (.Call (.Name x p) (e :: es) [] pos) (tMkV C sp ta) := by
  refine ⟨fun pins s σ H Q I h => ?_⟩
  obtain ⟨nm, q, N, bs, bm, sn, sub, ab, col, dd, k0, k1, k2, k3, k5, hC, hbm⟩ := T.cls
  refine wpAny_Call_Name_kw (ld_glob I hg hm ?_ hdb)
  refine PySem.W.callWith_K (h₀ := X.base) I.ok.mod.kin T.kC (thn (ha.run pos pins s σ H _ I h) fun us s1 ⟨vs, H1, I1, r1, hz, q1⟩ => ⟨I1.kIn, ?_⟩) he hpl
  show wpAny _ _ (call (.ref C) us) _ _ _
  obtain ⟨hp, g, dr, tk, os⟩ := s1
  have hsz : hp.objs.size ≤ hp.objs.size + 1 := Nat.le_succ _
  have hn : H1 (hp.objs.size + 1) = none := I1.hok.fresh hsz
  have hq := q1 (hp.objs.size + 1) hn
  have kk : ∀ b o, hp.get? b = some o → ((hp.push (PySem.W.kdv_tup us)).push (PySem.HandSPX.excO C hp.objs.size)).get? b = some o := fun b o e => Heap.get?_push_of_some _ (Heap.get?_push_of_some _ e)
  have hget : ((hp.push (PySem.W.kdv_tup us)).push (PySem.HandSPX.excO C hp.objs.size)).get? (hp.objs.size + 1) = some (PySem.HandSPX.excO C hp.objs.size) := by heap_get
  have I2 : Inv X pins σ (upd H1 (hp.objs.size + 1) (exo (hp.objs.size + 1) C none)) ⟨(hp.push (PySem.W.kdv_tup us)).push (PySem.HandSPX.excO C hp.objs.size), g, dr, tk, os⟩ :=
    I1.laid (t' := tk) (a := hp.objs.size + 1) (o := exo (hp.objs.size + 1) C none) (h' := (hp.push (PySem.W.kdv_tup us)).push (PySem.HandSPX.excO C hp.objs.size)) kk hsz (exo_ok hget)
  have r2 : Vals (V.ref (hp.objs.size + 1) :: vs) (Value.ref (hp.objs.size + 1) :: us) := .cons rfl r1
  have hl : (Value.ref (hp.objs.size + 1) :: us).length = ps.length := by
    have e := r2.length
    rw [F1.len _ _ _ _ hq] at e
    exact e.symm
  have hus : us.length ≤ sizeLine := by
    rw [← Paired.length r1, sizeLine_eq]
    omega
  refine wpAny_call (PySem.HandSPX.call_own F.excBase_ValueError (fun Y => PySem.HandSPX.refsVE_contains Y bm hbm) (I1.kIn _ _ hC) (PySem.W.looks_findIn I1.kIn iC) (fun self => PySem.W.bind_fn I1.kIn self tI) hus
    (codeAny_mono (F1.run _ X.stack _ _ ⟨Value.ref (hp.objs.size + 1) :: us, []⟩ (Value.ref (hp.objs.size + 1) :: us) _ _ (fun _ _ _ => False) (hr.make C us []) (I2.env0.make C us []) (by
      have := hb _ (Value.ref (hp.objs.size + 1) :: us) I2.kIn (by rw [List.append_nil]; exact hl)
      rw [List.append_nil] at this
      exact this) r2 hq) fun r s' hq' => ?_))
  cases r with
  | error er => exact hx pins σ _ _ er s' I2 hq'
  | ok fl =>
    cases fl with
    | ret u =>
      obtain ⟨v, H2, os2, bare2, un2, hok2, rv, ev, d, fs, ea, ed, hd1, q2⟩ := hq'
      subst ev
      obtain ⟨h2, g2, d2, t2, os'⟩ := s'
      refine ⟨rv, ?_⟩
      obtain ⟨t0, G, J, kG, ge, hoe, na⟩ := mk_end0 (d2 := d2) (t2 := t2) I1 hsz kk un2 hok2 os2 bare2 ea ed hd1
      exact ⟨.ref (hp.objs.size + 1), _, J.laidN (t' := t2) kG ge na (exK_ok hoe ⟨rfl, rfl⟩ rfl), rfl, q2⟩
    | next => exact False.elim hq'
    | brk => exact False.elim hq'
    | cont => exact False.elim hq'
end
end L2
namespace VI
open PySem L2 PySem.Spec PyProof.Rows
structure Xk (X : Cx) (ct : CT) (C : Str) (fn : List Str) (ring : Bool) : Prop where
  s : XS X.K (ct C)
  i : ∃ fI k fd ps, PySem.W.findIn X.K (.ref (ct C)) "__init__" = some (some (.ref fI)) ∧ PySem.W.typeIn X.K (.ref fI) = some (.type "function") ∧ FnOk X.prog X.w X.K X.mg X.base (L2.CX X.prog X.w) k fI fd ps (if ring then spR X.K (ct C) (fn.headD "") else spF (ct C) fn) ∧ Room (k + 1) X.A ∧ Binds X.K fd ps []
theorem zip_revs {fn : List Str} {vs : List V} (h : vs.length = fn.length) : ((fn.zip vs).reverse).map (·.1) = fn.reverse ∧ ((fn.zip vs).reverse).map (·.2) = vs.reverse := by
  rw [List.map_reverse, List.map_reverse]
  exact ⟨by rw [List.map_fst_zip (by omega)], by rw [List.map_snd_zip (by omega)]⟩
theorem RTs.app {E : Hw} : ∀ {xs ys : List D} {us vs : List V}, RTs E xs us cz → RTs E ys vs cz → RTs E (xs ++ ys) (us ++ vs) cz
  | [], ys, us, vs, h, g => by
    simp only [RTs] at h
    obtain ⟨rfl, _⟩ := h
    exact g
  | x :: xs, ys, us, vs, h, g => by
    simp only [RTs] at h
    obtain ⟨v, vs', c1, c2, rfl, r, q, e⟩ := h
    obtain ⟨rfl, rfl⟩ := cadd_z e
    simp only [List.cons_append, RTs]
    exact ⟨v, _, cz, cz, rfl, r, RTs.app q g, rfl⟩
theorem RTs.rev {E : Hw} : ∀ {xs : List D} {us : List V}, RTs E xs us cz → RTs E xs.reverse us.reverse cz
  | [], us, h => by
    simp only [RTs] at h
    obtain ⟨rfl, _⟩ := h
    simp [RTs]
  | x :: xs, us, h => by
    simp only [RTs] at h
    obtain ⟨v, vs', c1, c2, rfl, r, q, e⟩ := h
    obtain ⟨rfl, rfl⟩ := cadd_z e
    rw [List.reverse_cons, List.reverse_cons]
    refine RTs.app (RTs.rev q) ?_
    simp only [RTs]
    exact ⟨v, [], cz, cz, rfl, r, ⟨rfl, rfl⟩, rfl⟩
theorem mk_heap {H : Hp} {a d : Addr} {u v x y : HO} (hd : d ≠ a) : upd (del (upd (upd (upd H a u) d v) a x) a) d y = upd (del H a) d y := by
  funext c
  by_cases h1 : c = d
  · rw [h1, upd_same, upd_same]
  · rw [upd_ne h1, upd_ne h1]
    by_cases h2 : c = a
    · rw [h2, del_same, del_same]
    · rw [del_ne h2, del_ne h2, upd_ne h2, upd_ne h1, upd_ne h2]
theorem del_none {H : Hp} {a : Addr} (h : H a = none) : del H a = H := by
  funext c
  by_cases h2 : c = a
  · rw [h2, del_same, h]
  · rw [del_ne h2]
section
variable {X : Cx} {ct : CT} {W : WX} {T : Tab} {Pn : List Nat} {e : Expr} {es : List Expr} {c : Ex} {cs : List Ex} {C x : Str} {fn : List Str} {p pos pos' : Pos}
theorem mkXD_f {ds xs : List D} (h : mkXD fn false ds = some xs) : xs = ds ∧ ds.length = fn.length ∧ fn.length ≤ 2 := by
  unfold mkXD at h
  rw [if_neg (by decide)] at h
  split at h
  · rename_i g
    cases h
    exact ⟨rfl, g⟩
  · cases h
theorem g_mkx (F : Xk X ct C fn false) (l2 : 0 < fn.length) (tk : Takes X W) (hg : Gl X x) (hm : X.mg x = some (.ref (ct C))) (ha : PFs X ct W T (e :: es) (c :: cs)) (hdb : (x == ("__debug__" : Str)) = false := by decide)
    (he : starEach (e :: es) X.env = (false, eval e X.env) :: starEach es X.env := by rfl) (hpl : (backTo pos (starEach es X.env)).any (·.1) = false := by rfl) : PV X ct W T (.Call (.Name x p) (e :: es) [] pos) (.mkx C fn false (c :: cs)) := by
  obtain ⟨S, fI, k, fd, ps, iC, tI, F1, hr, hb⟩ := F
  refine PE.weak (pe_oex S.o iC tI F1 hr hb (passes_call tk (fun _ _ _ _ h => h.elim)) hg hm ha hdb he hpl) fun σ H Q z => ?_
  obtain ⟨E, s, ce, eK, ec, rfl, w, z⟩ := z
  simp only [ev] at z
  refine tFs_ok eK ec w (z.bnd fun ds vs E1 s1 c1 st r w1 z1 => ?_)
  have ecz : c1 = cz := r.1
  subst ecz
  cases hx : mkXD fn false ds with
  | none => rw [hx] at z1; exact (show False from z1).elim
  | some xs =>
    rw [hx] at z1
    obtain ⟨rfl, l1, l3⟩ := mkXD_f hx
    have lv : vs.length = fn.length := by rw [← r.2.length, l1]
    refine ⟨by omega, fun a hna => ?_⟩
    rw [if_neg (by decide)]
    refine ⟨a, vs, rfl, lv, upd_same, ?_⟩
    obtain ⟨m1, m2⟩ := zip_revs lv
    generalize (fn.zip vs).reverse = fs at m1 m2 ⊢
    cases fs with
    | nil =>
      simp only [List.map_nil] at m1
      have := congrArg List.length m1
      simp only [List.length_nil, List.length_reverse] at this
      omega
    | cons f fs =>
      intro d hd hda
      have hd' : E1.H d = none := by rw [upd_ne hda] at hd; exact hd
      refine ⟨rfl, d, f :: fs, upd_same, by rw [upd_ne hda, upd_same], hd', ?_⟩
      rw [mk_heap hda, del_none hna]
      have n1 : New E1 (E1.layF d (.xd (f :: fs))) := layF_new w1.same hd'
      have n2 : New (E1.layF d (.xd (f :: fs))) ((E1.layF d (.xd (f :: fs))).layF a (ExK (.ref (ct C)) (some d) a)) := layF_new n1.s (show upd E1.H d _ a = none by rw [upd_ne (Ne.symm hda)]; exact hna)
      have n := n1.trans n2
      have hct : E1.ct = ct := st.ct.trans ec
      refine z1.ret (b := V.ref a) (n.step _) (c := cz) ?_ (w1.new n (fun _ => Nat.zero_le _) fun q h => absurd rfl h)
      show RT _ (.exc C fn.reverse xs.reverse) (.ref a) cz
      simp only [RT]
      refine ⟨a, some d, f :: fs, rfl, ?_, .inr ⟨d, rfl, ?_⟩, m1, ?_⟩
      · show upd (upd E1.F d _) a _ a = _
        rw [upd_same]
        show some (ExK (.ref (ct C)) (some d) a) = some (ExK (.ref (E1.ct C)) (some d) a)
        rw [hct]
      · show upd (upd E1.F d _) a _ d = _
        rw [upd_ne hda, upd_same]
      · rw [m2]
        exact (RTs.mono _ (n.step _) r.2).rev
theorem mk_heap2 {H : Hp} {a d l : Addr} {u v x y z : HO} (hd : d ≠ a) (hl : l ≠ a) : upd (del (upd (upd (upd (upd H a u) l z) d v) a x) a) d y = upd (upd (del H a) l z) d y := by
  funext c
  by_cases h1 : c = d
  · rw [h1, upd_same, upd_same]
  · rw [upd_ne h1, upd_ne h1]
    by_cases h2 : c = a
    · rw [h2, del_same, upd_ne (Ne.symm hl), del_same]
    · rw [del_ne h2, upd_ne h2, upd_ne h1]
      by_cases h3 : c = l
      · rw [h3, upd_same, upd_same]
      · rw [upd_ne h3, upd_ne h3, upd_ne h2, del_ne h2]
theorem g_mkrQ {f : Str} (F : Xk X ct C [f] true) (tk : Takes X W) (hg : Gl X x) (hm : X.mg x = some (.ref (ct C))) (ha : PQ X ct T e c) (hdb : (x == ("__debug__" : Str)) = false := by decide)
    (he : starEach [e] X.env = (false, eval e X.env) :: starEach [] X.env := by rfl) (hpl : (backTo pos (starEach [] X.env)).any (·.1) = false := by rfl) : PV X ct W T (.Call (.Name x p) [e] [] pos) (.mkr C f c) := by
  obtain ⟨S, fI, k, fd, ps, iC, tI, F1, hr, hb⟩ := F
  refine PE.weak (pe_oex S.o iC tI F1 hr hb (passes_call tk (fun _ _ _ _ h => h.elim)) hg hm (pa_cons ha pa_nil he) hdb he hpl) fun σ H Q z => ?_
  obtain ⟨E, s, ce, eK, ec, rfl, w, z⟩ := z
  have inv : ∃ o ys, evq T s c = some (.lst o ys) ∧ allFs ys = true ∧ ev T (.mkr C f c) s = some (.ok (.exc C [f] [.lst true ys]) s) := by
    cases h : ev T (.mkr C f c) s with
    | none => rw [RA.non h] at z; exact z.elim
    | some r =>
      simp only [ev] at h
      split at h
      · rename_i o ys e1
        split at h
        · rename_i g
          exact ⟨o, ys, e1, g, h.symm⟩
        · cases h
      · cases h
  obtain ⟨o, ys, e1, gy, e2⟩ := inv
  rw [RA.ok e2] at z
  refine ⟨E, s, ce, .lst o ys, eK, ec, rfl, w, e1, fun v cc rv => ?_⟩
  obtain ⟨q, zs, c', rfl, hq, t, _⟩ := lst_at w.same rv
  have rz := t.fz gy
  refine ⟨by simp, fun a hna => ?_⟩
  rw [if_pos rfl]
  have hqa : q ≠ a := fun e => by rw [e, hna] at hq; cases hq
  refine ⟨a, q, zs, rfl, .inl (.inl (.inl (by rw [upd_ne hqa]; exact hq))), upd_same, fun l hl d hd hda => ?_⟩
  have hla : l ≠ a := fun e => by rw [e, upd_same] at hl; cases hl
  have hl' : E.H l = none := by rw [upd_ne hla] at hl; exact hl
  have hdl : d ≠ l := fun e => by rw [e, upd_same] at hd; cases hd
  have hd' : E.H d = none := by rw [upd_ne hdl, upd_ne hda] at hd; exact hd
  refine ⟨rfl, d, [(f, .ref l)], upd_same, by rw [upd_ne hda, upd_same]; rfl, hd', ?_⟩
  rw [mk_heap2 hda hla, del_none hna]
  have n0 : New E (E.lay l (.lst zs)) := lay_new w.same hl'
  have n1 : New (E.lay l (.lst zs)) ((E.lay l (.lst zs)).layF d (.xd [(f, .ref l)])) := layF_new n0.s (show upd E.H l _ d = none by rw [upd_ne hdl]; exact hd')
  have n2 : New ((E.lay l (.lst zs)).layF d (.xd [(f, .ref l)])) (((E.lay l (.lst zs)).layF d (.xd [(f, .ref l)])).layF a (ExK (.ref (ct C)) (some d) a)) := layF_new n1.s (show upd (upd E.H l _) d _ a = none by rw [upd_ne (Ne.symm hda), upd_ne (Ne.symm hla)]; exact hna)
  have n := (n0.trans n1).trans n2
  have hct : E.ct = ct := ec
  have fl : E.F l = none := by
    cases u : E.F l with
    | none => rfl
    | some o => rw [w.same l o u] at hl'; cases hl'
  have one0 : ∀ y, y ≠ l → one l y = 0 := fun y h => by simp only [one]; exact if_neg h
  refine z (V.ref a) _ (one l) (n.step _) ?_ (w.new n (fun p => ?_) fun p h => ?_)
  · show RT _ (.exc C [f] [D.lst true ys]) (.ref a) (one l)
    simp only [RT]
    refine ⟨a, some d, [(f, .ref l)], rfl, ?_, .inr ⟨d, rfl, ?_⟩, rfl, ?_⟩
    · show upd (upd E.F d _) a _ a = _
      rw [upd_same]
      show some (ExK (.ref (ct C)) (some d) a) = some (ExK (.ref (E.ct C)) (some d) a)
      rw [hct]
    · show upd (upd E.F d _) a _ d = _
      rw [upd_ne hda, upd_same]
    · simp only [List.map_cons, List.map_nil, RTs, RT]
      refine ⟨.ref l, [], one l, cz, rfl, ⟨l, zs, cz, rfl, ?_, RTs.mono _ (n.step _) rz, ?_⟩, ⟨rfl, rfl⟩, ?_⟩
      · show upd (upd (upd E.H l _) d _) a _ l = _
        rw [upd_ne hla, upd_ne (Ne.symm hdl), upd_same]
      · rw [cadd_rz]
      · rw [cadd_rz]
  · simp only [one]
    split <;> omega
  · have e : p = l := by
      by_cases y : p = l
      · exact y
      · exact absurd (one0 p y) h
    subst e
    refine ⟨hl', ?_, ?_⟩
    · show upd (upd E.F d _) a _ p = none
      rw [upd_ne hla, upd_ne (Ne.symm hdl)]
      exact fl
    · show upd (upd (upd E.H p _) d _) a _ p ≠ none
      rw [upd_ne hla, upd_ne (Ne.symm hdl), upd_same]
      exact fun z => nomatch z
end
end VI
namespace VI
open PySem L2 PySem.Spec PyProof.Rows
theorem XG.tr {X : Cx} (G : XG X) (pn : List (Addr × Obj)) (xe : Value → Shared → Prop) : XG (X.tr pn xe) := ⟨G.calm, G.nd, G.hu⟩
end VI
namespace VI
open PySem L2 PySem.Spec PyProof.Rows
theorem XS.f {K : PySem.W.Frag} {C : Addr} (S : XS K C) : XfC K C := ⟨S.x.hg, S.x.hk, S.x.hs, S.x.hd⟩
theorem exc_at {E : Hw} {P : Program} {w : World} {h : Heap} {C : Str} {fn : List Str} {ds : List D} {v : V} {c : Cn} (hs : ∀ a o, E.F a = some o → E.H a = some o) (hok : HOk P w E.H h) (r : RT E (.exc C fn ds) v c) :
    ∃ a oe vs fs, v = .ref a ∧ h.get? a = some oe ∧ oe.cls = .ref (E.ct C) ∧ oe.data = .fields vs ∧ fs.map (·.1) = fn ∧ RTs E ds (fs.map (·.2)) c ∧ ((oe.dict = none ∧ fs = []) ∨ ∃ dd, oe.dict = some dd ∧ E.H dd = some (.xd fs)) := by
  simp only [RT] at r
  obtain ⟨a, d, fs, rfl, q, x, z, t⟩ := r
  have q1 : ObjOk P w E.H h a (ExK (.ref (E.ct C)) d a) := hok a _ (hs _ _ q)
  obtain ⟨⟨oe, vs, e1, ⟨e2, e3⟩, e4⟩, _⟩ := q1
  refine ⟨a, oe, vs, fs, rfl, e1, e2, e4, z, t, ?_⟩
  rcases x with ⟨x, y⟩ | ⟨dd, x, y⟩
  · exact .inl ⟨by rw [e3, x], y⟩
  · exact .inr ⟨dd, by rw [e3, x], hs _ _ y⟩
section
variable {X : Cx} {ct : CT} {W : WX} {T : Tab} {al yes : List Str} {e : Expr} {c : Ex} {f y : Str} {aY : Addr} {p1 p2 pos pos' : Pos}
theorem pe_glo (hg : Gl X y) (hm : X.mg y = some (.ref aY)) (hd : (y == ("__debug__" : Str)) = false := by decide) : PE X (.Name y pos) (tC (.ref aY)) :=
  ⟨fun _ _ _ H _ I h => ld_glob I hg hm ⟨.ref aY, H, I, rfl, h⟩ hd⟩
theorem c_isx {v : V} {cv : Value} (hv : ∀ u, RelV v u → u = cv) (hal : ∀ C ∈ al, XS X.K (ct C) ∧ PySem.W.kitOne X.K (.ref (ct C)) cv = some (decide (C ∈ yes))) : CallR X (.builtin "isinstance") (fun xs H Q => ∃ x, xs = [x, v] ∧ PR X.K ct (.isx al yes) [x] H Q) := by
  intro pins s σ H xs us Q I r h
  obtain ⟨x, rfl, h⟩ := h
  obtain ⟨E, a, d, x', ca, e, eK, ect, rfl, hs, ra, hf, k, _⟩ := h.one rfl
  cases e
  subst ect
  cases a <;> first | (cases hf; done) | skip
  rename_i C fn ds
  simp only [isxD] at hf
  split at hf
  · rename_i hC
    cases hf
    obtain ⟨S, hk⟩ := hal C hC
    cases r with
    | cons rx rr =>
      cases rr with
      | cons rt rr =>
        cases rr
        obtain ⟨b, oe, vs, fs, rfl, e1, e2, e3, z, t, dd⟩ := exc_at hs I.hok ra
        cases rx
        have ec := hv _ rt
        subst ec
        have nc : PySem.W.notCls oe = true := by unfold PySem.W.notCls; rw [e3] <;> rfl
        have hcl : (PySem.W.clsIn X.K (E.ct C)).isSome = true := by
          obtain ⟨cd, hc, _⟩ := PySem.W.any_some S.x.hd
          rw [hc]
          rfl
        have fin : ∀ od, PySem.W.InstAt s.heap b oe (E.ct C) od → wpAny (model X.prog X.w) X.A (call (.builtin "isinstance") [.ref b, _]) (EP X pins σ Q) X.xe s := fun od J =>
          PySem.W.kia_one (PySem.W.kitx_exc hcl S.x.hg S.x.hk S.x.hs S.x.ha S.x.hn S.x.ht S.x.hm) I.kIn J hk (fun z => nomatch z) fun tk => ⟨.bl _, _, I.kept (t' := tk) fun _ _ z => z, rfl, k rfl _ rt_bl⟩
        rcases dd with ⟨d1, _⟩ | ⟨dd, d1, d2⟩
        · exact fin none ⟨e1, e2, nc, by rw [d1]; exact trivial⟩
        · have q1 : ObjOk X.prog X.w E.H s.heap dd (.xd fs) := I.hok dd _ d2
          obtain ⟨mA, hns, hr⟩ := q1
          obtain ⟨od, ho, hl⟩ := lookIn_ns hns
          exact fin (some od) ⟨e1, e2, nc, by rw [d1]; exact ho⟩
  · cases hf
theorem q_isx (hg : Gl X "isinstance") (hm : X.mg "isinstance" = none) (ha : PQ X ct T e c) (hy : Gl X y) (hmy : X.mg y = some (.ref aY)) (hal : ∀ C ∈ al, XS X.K (ct C) ∧ PySem.W.kitOne X.K (.ref (ct C)) (.ref aY) = some (decide (C ∈ yes)))
    (he : starEach [e, .Name y p2] X.env = (false, eval e X.env) :: starEach [.Name y p2] X.env := by rfl) (hd : (y == ("__debug__" : Str)) = false := by decide) : PQ X ct T (.Call (.Name "isinstance" pos') [e, .Name y p2] [] pos) (.pr (.isx al yes) [c]) :=
  pq1 (r := fun x H Q => PR X.K ct (.isx al yes) [x] H Q) (PE.weak (pe_callB (c_isx (v := .ref aY) (fun u r => r) hal) hg hm (by decide +kernel) (pa_cons ha (pa_cons (pe_glo hy hmy hd) pa_nil) he) (by decide) (by decide) he rfl) fun σ H Q z => tQ_mono (Q := _) z fun x H q => ⟨x, rfl, q⟩) (fun _ _ _ h => h) rfl
theorem q_isxT {n : String} (hg : Gl X "isinstance") (hm : X.mg "isinstance" = none) (ha : PQ X ct T e c) (hy : Gl X y) (hmy : X.mg y = none) (hvy : bootBuiltins y = some (.type n)) (hal : ∀ C ∈ al, XS X.K (ct C) ∧ PySem.W.kitOne X.K (.ref (ct C)) (.type n) = some (decide (C ∈ yes)))
    (he : starEach [e, .Name y p2] X.env = (false, eval e X.env) :: starEach [.Name y p2] X.env := by rfl) (hn : y ≠ "__name__" := by decide) (hd : (y == ("__debug__" : Str)) = false := by decide) : PQ X ct T (.Call (.Name "isinstance" pos') [e, .Name y p2] [] pos) (.pr (.isx al yes) [c]) :=
  pq1 (r := fun x H Q => PR X.K ct (.isx al yes) [x] H Q) (PE.weak (pe_callB (c_isx (v := .ty n) (fun u r => r) hal) hg hm (by decide +kernel) (pa_cons ha (pa_cons (pe_bltn (v := .ty n) hy hmy hvy rfl hn hd) pa_nil) he) (by decide) (by decide) he rfl) fun σ H Q z => tQ_mono (Q := _) z fun x H q => ⟨x, rfl, q⟩) (fun _ _ _ h => h) rfl
theorem q_fx (hal : ∀ C ∈ al, XS X.K (ct C) ∧ PySem.W.findIn X.K (.ref (ct C)) f = some none) (ha : PQ X ct T e c) (hb : attributeBase e f X.env (eval e X.env) = eval e X.env := by rfl) : PQ X ct T (.Attribute e f pos) (.fxq al c f) := by
  refine ⟨fun pins s σ H Q I h => ?_⟩
  obtain ⟨E, s0, ce, d, eK, ect, rfl, w, hq, k⟩ := h
  simp only [evq] at hq
  obtain ⟨a, hq, hf⟩ := Option.bind_eq_some_iff.mp hq
  refine attr_of hb (thn (ha.run pins s σ E.H (fun x H1 => H1 = E.H ∧ ∃ ca, RT E a x ca) I ⟨E, s0, ce, a, eK, ect, rfl, w, hq, fun v cc r => ⟨rfl, cc, r⟩⟩) fun u s1 ⟨x, H1, I1, r1, eH, ca, ra⟩ => ?_)
  subst eH
  subst ect
  obtain ⟨C, fn, ds, rfl⟩ : ∃ C fn ds, a = .exc C fn ds := by
    cases a <;> first | (cases hf; done) | exact ⟨_, _, _, rfl⟩
  simp only [fxD] at hf
  split at hf
  · rename_i hC
    obtain ⟨S, hno⟩ := hal C hC
    obtain ⟨b, oe, vs, fs, rfl, e1, e2, e3, z, t, dd⟩ := exc_at w.same I1.hok ra
    cases r1
    obtain ⟨v, c', hv, rv⟩ := look_fs f z t hf
    rcases dd with ⟨_, rfl⟩ | ⟨dd, d1, d2⟩
    · cases hv
    · have q1 : ObjOk X.prog X.w E.H s1.heap dd (.xd fs) := I1.hok dd _ d2
      obtain ⟨mA, hns, hr⟩ := q1
      obtain ⟨od, ho, hlk⟩ := lookIn_ns hns
      obtain ⟨u, hu, ru⟩ := RelO.some_of (v := v) (o := mA f) (by rw [← hv]; exact hr f)
      have J : PySem.W.InstAt s1.heap b oe (E.ct C) (some od) := ⟨e1, e2, by unfold PySem.W.notCls; rw [e3] <;> rfl, by rw [d1]; exact ho⟩
      exact HandSPX.exc_get I1.kIn J S.f.ga S.f.gg S.f.exC (PySem.W.findObj_own S.f.hdC hno rfl (by rw [hlk, hu])) (handed_of ru) ⟨v, _, I1.tok _, ru, k v _ rv⟩
  · cases hf
end
end VI
namespace VI
open PySem L2 PySem.Spec PyProof.Rows
theorem SaysE.x {fa : List He.Fa} {fn : List He.DefD} {fx : List Fx} {K : PySem.W.Frag} (c : SaysE fa fn fx K) (i : Nat) {f : Fx} (h : fx[i]? = some f := by rfl) : f.ok K = true := List.all_eq_true.mp c.1 f (List.mem_of_getElem? h)
theorem xs_of {K : PySem.W.Frag} {x : Str} (h : (Fx.xs x).ok K = true) : XS K (He.ga K x) := xs_ok h
theorem bi_of {K : PySem.W.Frag} {x : Str} (h : (Fx.bi x).ok K = true) : BI K (He.ga K x) := bi_ok h
theorem isk_of {K : PySem.W.Frag} {x y : Str} {b : Bool} (h : (Fx.isk x y b).ok K = true) : PySem.W.kitOne K (.ref (He.ga K x)) (.ref (He.ga K y)) = some b := of_decide_eq_true h
theorem ist_of {K : PySem.W.Frag} {x : Str} {T : String} {b : Bool} (h : (Fx.ist x T b).ok K = true) : PySem.W.kitOne K (.ref (He.ga K x)) (.type T) = some b := of_decide_eq_true h
abbrev IsxF (K : PySem.W.Frag) (ct : CT) (al yes : List Str) (cv : Value) : Prop := ∀ D ∈ al, XS K (ct D) ∧ PySem.W.kitOne K (.ref (ct D)) cv = some (decide (D ∈ yes))
abbrev FxF (K : PySem.W.Frag) (ct : CT) (al : List Str) (f : Str) : Prop := ∀ D ∈ al, XS K (ct D) ∧ PySem.W.findIn K (.ref (ct D)) f = some none
theorem al_nil {P : Str → Prop} : ∀ C ∈ ([] : List Str), P C := fun _ h => nomatch h
theorem al_cons {P : Str → Prop} {a : Str} {l : List Str} (h : P a) (t : ∀ C ∈ l, P C) : ∀ C ∈ a :: l, P C := fun C hc => by
  rcases List.mem_cons.mp hc with rfl | hc
  · exact h
  · exact t C hc
def Dx (P : Program) (w : World) (K : PySem.W.Frag) (mg : Str → Option Value) (base : Heap) (ct : CT) (C : Str) (fn : List Str) (ring : Bool) : Prop :=
  XS K (ct C) ∧ ∃ fI fd ps, PySem.W.findIn K (.ref (ct C)) "__init__" = some (some (.ref fI)) ∧ PySem.W.typeIn K (.ref fI) = some (.type "function") ∧ FnOk P w K mg base (L2.CX P w) 1 fI fd ps (if ring then spR K (ct C) (fn.headD "") else spF (ct C) fn) ∧ Binds K fd ps []
theorem xk_of {X : Cx} {ct : CT} {C : Str} {fn : List Str} {ring : Bool} {j : Nat} (h : Dx X.prog X.w X.K X.mg X.base ct C fn ring) (hr : Room j X.A) (hj : 2 ≤ j) : Xk X ct C fn ring := by
  obtain ⟨S, fI, fd, ps, h1, h2, h3, h4⟩ := h
  exact ⟨S, fI, 1, fd, ps, h1, h2, h3, hr.mono hj, h4⟩
section
variable {P : Program} {w : World} {K : PySem.W.Frag} {mg : Str → Option Value} {base : Heap} {ct : CT} {C qual b t f g y z : Str} {params : Arguments} {scope : Scope} {fI aB : Addr} {fd : FuncData} {j : Nat} {p1 p2 p3 p4 p5 p6 q1 q2 q3 q4 r1 r2 r3 r4 : Pos}
theorem dx0 (F : FunD K "__init__" qual params [.Expr (.Call (.Attribute (.Name b p1) "__init__" p2) [.Name "self" p3, .Constant (.str t) j p4] [] p5) p6] scope [] [] fI fd) (S : FnScope ["self"] ["self"] scope) (hbi : Binds K fd ["self"] [])
    (hg : scope.names.lookup b = some .globalImplicit) (h0 : scope.names.lookup ("self" : Str) = some .local) (hm : mg b = some (.ref aB)) (B : BI K aB) (T : XS K (ct C)) (M : Meth K (ct C) "__init__" fI)
    (hc : ∀ (L a : Addr) (cd : Value), CEq (envOfC qual scope L a cd) b p1 p2 p5 [.Name "self" p3, .Constant (.str t) j p4]) (hb : (b == ("__debug__" : Str)) = false := by decide) : Dx P w K mg base ct C [] false :=
  ⟨T, fI, fd, ["self"], M.at_, beq_iff_eq.mp M.fn, init0 (k := 0) F S hg h0 hm B T.o hc hb, hbi⟩
theorem dx1 (F : FunD K "__init__" qual params [.Expr (.Call (.Attribute (.Name b p1) "__init__" p2) [.Name "self" p3, .Constant (.str t) j p4] [] p5) p6, .Assign [.Attribute (.Name "self" q1) f q2] (.Name y q3) q4] scope [] [] fI fd) (S : FnScope ["self", y] ["self", y] scope) (hbi : Binds K fd ["self", y] [])
    (hg : scope.names.lookup b = some .globalImplicit) (h0 : scope.names.lookup ("self" : Str) = some .local) (h1 : scope.names.lookup y = some .local) (hm : mg b = some (.ref aB)) (B : BI K aB) (T : XS K (ct C)) (M : Meth K (ct C) "__init__" fI) (hno : PySem.W.findIn K (.ref (ct C)) f = some none)
    (hc : ∀ (L a : Addr) (cd : Value), CEq (envOfC qual scope L a cd) b p1 p2 p5 [.Name "self" p3, .Constant (.str t) j p4]) (hb : (b == ("__debug__" : Str)) = false := by decide)
    (hy : (y == ("__debug__" : Str)) = false := by decide) (hy2 : (y == ("__classdict__" : Str)) = false := by decide) : Dx P w K mg base ct C [f] false :=
  ⟨T, fI, fd, ["self", y], M.at_, beq_iff_eq.mp M.fn, init1 (k := 0) F S hg h0 h1 hm B T.o hno hc hb hy hy2, hbi⟩
theorem dx2 (F : FunD K "__init__" qual params [.Expr (.Call (.Attribute (.Name b p1) "__init__" p2) [.Name "self" p3, .Constant (.str t) j p4] [] p5) p6, .Assign [.Attribute (.Name "self" q1) f q2] (.Name y q3) q4, .Assign [.Attribute (.Name "self" r1) g r2] (.Name z r3) r4] scope [] [] fI fd) (S : FnScope ["self", y, z] ["self", y, z] scope) (hbi : Binds K fd ["self", y, z] [])
    (hg : scope.names.lookup b = some .globalImplicit) (h0 : scope.names.lookup ("self" : Str) = some .local) (h1 : scope.names.lookup y = some .local) (h2 : scope.names.lookup z = some .local) (hm : mg b = some (.ref aB)) (B : BI K aB) (T : XS K (ct C)) (M : Meth K (ct C) "__init__" fI) (hno : PySem.W.findIn K (.ref (ct C)) f = some none) (hno2 : PySem.W.findIn K (.ref (ct C)) g = some none)
    (hc : ∀ (L a : Addr) (cd : Value), CEq (envOfC qual scope L a cd) b p1 p2 p5 [.Name "self" p3, .Constant (.str t) j p4]) (hb : (b == ("__debug__" : Str)) = false := by decide)
    (hy : (y == ("__debug__" : Str)) = false := by decide) (hy2 : (y == ("__classdict__" : Str)) = false := by decide) (hz : (z == ("__debug__" : Str)) = false := by decide) (hz2 : (z == ("__classdict__" : Str)) = false := by decide) : Dx P w K mg base ct C [f, g] false :=
  ⟨T, fI, fd, ["self", y, z], M.at_, beq_iff_eq.mp M.fn, init2 (k := 0) F S hg h0 h1 h2 hm B T.o hno hno2 hc hb hy hy2 hz hz2, hbi⟩
theorem dxR (F : FunD K "__init__" qual params [.Expr (.Call (.Attribute (.Name b p1) "__init__" p2) [.Name "self" p3, .Constant (.str t) j p4] [] p5) p6, .Assign [.Attribute (.Name "self" q1) f q2] (.Call (.Name "list" r1) [.Name y q3] [] r2) q4] scope [] [] fI fd) (S : FnScope ["self", y] ["self", y] scope) (hbi : Binds K fd ["self", y] [])
    (hg : scope.names.lookup b = some .globalImplicit) (hl : scope.names.lookup ("list" : Str) = some .globalImplicit) (hml : mg "list" = none) (h0 : scope.names.lookup ("self" : Str) = some .local) (h1 : scope.names.lookup y = some .local) (hm : mg b = some (.ref aB)) (B : BI K aB) (T : XS K (ct C)) (M : Meth K (ct C) "__init__" fI) (hno : PySem.W.findIn K (.ref (ct C)) f = some none)
    (hc : ∀ (L a : Addr) (cd : Value), CEq (envOfC qual scope L a cd) b p1 p2 p5 [.Name "self" p3, .Constant (.str t) j p4]) (hb : (b == ("__debug__" : Str)) = false := by decide)
    (hy : (y == ("__debug__" : Str)) = false := by decide) (hy2 : (y == ("__classdict__" : Str)) = false := by decide) : Dx P w K mg base ct C [f] true :=
  ⟨T, fI, fd, ["self", y], M.at_, beq_iff_eq.mp M.fn, initR (k := 0) F S hg hl hml h0 h1 hm B T.o hno hc hb hy hy2, hbi⟩
end
end VI
namespace L2
open PySem PySem.Spec PyProof.Rows
def tXfl (K : PySem.W.Frag) (f : Str) (te : TE) : TE := fun σ H Q => te σ H fun x H1 => ∃ (b C : Addr) (d : Addr) (fs : List (Str × V)) (v : V), x = .ref b ∧ VI.XS K C ∧ PySem.W.findIn K (.ref C) f = some none ∧ H1 b = some (VI.ExK (.ref C) (some d) b) ∧ H1 d = some (.xd fs) ∧ fs.lookup f = some v ∧ Q v H1
theorem pe_xfl {X : Cx} {e : Expr} {f : Str} {te : TE} {pos : Pos} (he : PE X e te) (hb : attributeBase e f X.env (eval e X.env) = eval e X.env := by rfl) : PE X (.Attribute e f pos) (tXfl X.K f te) := by
  refine ⟨fun pins s σ H Q I h => attr_of hb (thn (he.run pins s σ H _ I h) fun u s1 ⟨x, H1, I1, r1, b, C, d, fs, v, ex, S, hno, q1, q2, q3, q⟩ => ?_)⟩
  subst ex
  cases r1
  have o1 : ObjOk X.prog X.w H1 s1.heap b (VI.ExK (.ref C) (some d) b) := I1.hok b _ q1
  obtain ⟨⟨oe, vs, e1, ⟨e2, e3⟩, e4⟩, _⟩ := o1
  have o2 : ObjOk X.prog X.w H1 s1.heap d (.xd fs) := I1.hok d _ q2
  obtain ⟨mA, hns, hr⟩ := o2
  obtain ⟨od, ho, hlk⟩ := lookIn_ns hns
  obtain ⟨u, hu, ru⟩ := RelO.some_of (v := v) (o := mA f) (by rw [← q3]; exact hr f)
  have J : PySem.W.InstAt s1.heap b oe C (some od) := ⟨e1, e2, by unfold PySem.W.notCls; rw [e4] <;> rfl, by rw [e3]; exact ho⟩
  exact HandSPX.exc_get I1.kIn J S.x.hg S.x.hk S.x.hs (PySem.W.findObj_own S.x.hd hno rfl (by rw [hlk, hu])) (handed_of ru) ⟨v, H1, I1.tok _, ru, q⟩
theorem mk_end00 {X : Cx} {pins : List (Addr × Obj)} {σ : St} {H1 H2 : Hp} {hp hp2 h2 : Heap} {g1 g2 : Array GenState} {d1 d2 : Drawn} {t1 t2 : Nat} {os1 os2 : OsState} {a C : Addr} (I1 : Inv X pins σ H1 ⟨hp, g1, d1, t1, os1⟩)
    (ha : hp.objs.size ≤ a) (k : ∀ b o, hp.get? b = some o → hp2.get? b = some o) (un : Un (frs X.stack) [] (upd H1 a (exo a C none)) H2 hp2 h2) (hok : HOk X.prog X.w H2 h2) (ho : os2 = os1) (hb : AllBare g2)
    (ea : H2 a = some (exo a C none)) :
    ∃ (t0 : Addr) (G : Heap), Inv X pins σ (del H2 a) ⟨G, g2, d2, t2, os2⟩ ∧ (∀ b o, G.get? b = some o → h2.get? b = some o) ∧ G.get? a = none ∧
      h2.get? a = some ({ cls := .ref C, dict := none, data := .fields #[.ref t0, .none, .none, .none, .bool false, .none] } : Obj) ∧ (del H2 a) a = none := by
  obtain ⟨t0, hoe⟩ := exo_at hok ea
  have hn : H1 a = none := I1.hok.fresh ha
  obtain ⟨G, g1', g2'⟩ := restrict h2 fun b => decide (b ≠ a)
  have gk : ∀ b, b ≠ a → G.get? b = h2.get? b := fun b hb => g1' b (decide_eq_true hb)
  have ge : G.get? a = none := g2' a (by simp)
  have nha : ∀ {b : Addr} {o : Obj}, hp.get? b = some o → b ≠ a := fun {b o} z => Nat.ne_of_lt (Nat.lt_of_lt_of_le (Heap.lt_size z) ha)
  have up : ∀ {b : Addr}, b ≠ a → H1 b = none → upd H1 a (exo a C none) b = none := fun {b} hb n => by rw [upd_ne hb]; exact n
  have U : Un (frs X.stack) [] H1 (del H2 a) hp G := {
    keep := fun b o z n hf hx => by
      rw [gk b (nha z)]
      exact un.keep b o (k b o z) (up (nha z) n) hf hx
    slot := fun b o z n hf hx => by
      rw [gk b (nha z)]
      exact un.slot b o (k b o z) (up (nha z) n) hf hx
    free := fun b o z n hx => by
      rw [del_ne (nha z)]
      exact un.free b o (k b o z) (up (nha z) n) hx
    there := fun b o z hx => by
      rw [gk b (nha z)]
      exact un.there b o (k b o z) hx
    tups := fun b xs z => by
      rw [del_ne (ne_of_none z hn)]
      exact un.tups b xs (by rw [upd_ne (ne_of_none z hn)]; exact z)
    frzs := fun b o v z => by
      rw [del_ne (ne_of_none z hn)]
      exact un.frzs b o v (by rw [upd_ne (ne_of_none z hn)]; exact z)
    tbls := fun b ps z => by
      rw [del_ne (ne_of_none z hn)]
      exact un.tbls b ps (by rw [upd_ne (ne_of_none z hn)]; exact z) }
  have hok3 : HOk X.prog X.w (del H2 a) G := fun b o z => by
    have hba : b ≠ a := fun e => by
      rw [e, del_same] at z
      cases z
    rw [del_ne hba] at z
    have noa : ∀ {c : Addr}, H2 c = some (.own b) → c ≠ a := fun {c} hc => at_ne ea hc exo_own
    exact (hok b o z).stay (fun c v hc y => by
        have hca : c ≠ a := by
          rcases hc with hc | hc
          · rw [hc]
            exact hba
          · exact noa hc
        rw [gk c hca]
        exact y)
      (fun c hc => by rw [del_ne (noa hc)]; exact hc) (fun c xs hc => by rw [del_ne (at_ne ea hc exo_tup)]; exact hc)
  have J : Inv X pins σ (del H2 a) ⟨G, g2, d2, t2, os2⟩ := I1.call' (ch := []) ho U hok3 hb (fun b z => absurd z (by simp))
  refine ⟨t0, G, J, fun b o z => ?_, ge, hoe, del_same⟩
  by_cases hba : b = a
  · rw [hba, ge] at z
    cases z
  · exact (gk b hba).symm.trans z
theorem pe_oex0 {X : Cx} {p pos : Pos} {CX : CXT} {x : Str} {C fI : Addr} {k : Nat} {fd : FuncData} {ps : List Str} {sp : Sp} (T : OexC X.K C) (iC : PySem.W.findIn X.K (.ref C) "__init__" = some (some (.ref fI))) (tI : PySem.W.typeIn X.K (.ref fI) = some (.type "function"))
    (F1 : FnOk X.prog X.w X.K X.mg X.base CX k fI fd ps sp) (hr : Room (k + 1) X.A) (hb : Binds X.K fd ps []) (hx : Passes CX X (fun _ _ _ => False)) (hg : Gl X x) (hm : X.mg x = some (.ref C)) (hdb : (x == ("__debug__" : Str)) = false := by decide) :
    PE X (.Call (.Name x p) [] [] pos) (fun σ H Q => ∀ a, H a = none → sp [.ref a] (upd H a (exo a C none)) (fun v H2 => v = .non ∧ H2 a = some (exo a C none) ∧ Q (.ref a) (upd (del H2 a) a (VI.ExK (.ref C) none a))) (fun _ _ _ => False)) := by
  refine ⟨fun pins s σ H Q I h => ?_⟩
  obtain ⟨nm, q, N, bs, bm, sn, sub, ab, col, dd, k0, k1, k2, k3, k5, hC, hbm⟩ := T.cls
  refine wpAny_Call_Name_kw (ld_glob I hg hm ?_ hdb)
  refine PySem.W.callWith_K0 I.kIn T.kC ?_
  show wpAny _ _ (call (.ref C) []) _ _ _
  obtain ⟨hp, g, dr, tk, os⟩ := s
  have hsz : hp.objs.size ≤ hp.objs.size + 1 := Nat.le_succ _
  have hn : H (hp.objs.size + 1) = none := I.hok.fresh hsz
  have hq := h (hp.objs.size + 1) hn
  have kk : ∀ b o, hp.get? b = some o → ((hp.push (PySem.W.kdv_tup [])).push (PySem.HandSPX.excO C hp.objs.size)).get? b = some o := fun b o e => Heap.get?_push_of_some _ (Heap.get?_push_of_some _ e)
  have hget : ((hp.push (PySem.W.kdv_tup [])).push (PySem.HandSPX.excO C hp.objs.size)).get? (hp.objs.size + 1) = some (PySem.HandSPX.excO C hp.objs.size) := by heap_get
  have I2 : Inv X pins σ (upd H (hp.objs.size + 1) (exo (hp.objs.size + 1) C none)) ⟨(hp.push (PySem.W.kdv_tup [])).push (PySem.HandSPX.excO C hp.objs.size), g, dr, tk, os⟩ :=
    I.laid (t' := tk) (a := hp.objs.size + 1) (o := exo (hp.objs.size + 1) C none) (h' := (hp.push (PySem.W.kdv_tup [])).push (PySem.HandSPX.excO C hp.objs.size)) kk hsz (exo_ok hget)
  have r2 : Vals [V.ref (hp.objs.size + 1)] [Value.ref (hp.objs.size + 1)] := .cons rfl .nil
  have hl : [Value.ref (hp.objs.size + 1)].length = ps.length := by
    have e := r2.length
    rw [F1.len _ _ _ _ hq] at e
    exact e.symm
  refine wpAny_call (PySem.HandSPX.call_own F.excBase_ValueError (fun Y => PySem.HandSPX.refsVE_contains Y bm hbm) (I.kIn _ _ hC) (PySem.W.looks_findIn I.kIn iC) (fun self => PySem.W.bind_fn I.kIn self tI) (Nat.zero_le _)
    (codeAny_mono (F1.run _ X.stack _ _ ⟨[Value.ref (hp.objs.size + 1)], []⟩ [Value.ref (hp.objs.size + 1)] _ _ (fun _ _ _ => False) (hr.make C [] []) (I2.env0.make C [] []) (by
      have := hb _ [Value.ref (hp.objs.size + 1)] I2.kIn (by rw [List.append_nil]; exact hl)
      rw [List.append_nil] at this
      exact this) r2 hq) fun r s' hq' => ?_))
  cases r with
  | error er => exact hx pins σ _ _ er s' I2 hq'
  | ok fl =>
    cases fl with
    | ret u =>
      obtain ⟨v, H2, os2, bare2, un2, hok2, rv, ev, ea, q2⟩ := hq'
      subst ev
      obtain ⟨h2, g2, d2, t2, os'⟩ := s'
      refine ⟨rv, ?_⟩
      obtain ⟨t0, G, J, kG, ge, hoe, na⟩ := mk_end00 (d2 := d2) (t2 := t2) I hsz kk un2 hok2 os2 bare2 ea
      exact ⟨.ref (hp.objs.size + 1), _, J.laidN (t' := t2) kG ge na (exK_ok hoe ⟨rfl, rfl⟩ rfl), rfl, q2⟩
    | next => exact False.elim hq'
    | brk => exact False.elim hq'
    | cont => exact False.elim hq'
end L2
namespace VI
open PySem L2 PySem.Spec PyProof.Rows
section
variable {X : Cx} {ct : CT} {W : WX} {T : Tab} {al : List Str} {o a : Expr} {ca : Ex} {i : Nat} {f : Str} {fpos apos pos : Pos}
theorem apX_inv {s : VS} {r : Res D} (h : ev T (.apX al i f ca) s = some r) : ∃ C xs d, s.ρ[i]? = some (some (.exc C [f] [.lst true xs])) ∧ evq T s ca = some d ∧ C ∈ al ∧ allF d = true ∧ xs.length < lim ∧ r = .ok .non ⟨s.ρ.set i (some (.exc C [f] [.lst true (xs ++ [d])])), s.μ⟩ := by
  simp only [ev] at h
  split at h
  · rename_i C g xs d h1 h2
    split at h
    · rename_i hc
      obtain ⟨⟨c1, rfl⟩, c2, c3⟩ := hc
      cases h
      exact ⟨C, xs, d, h1, h2, c1, c2, c3, rfl⟩
    · cases h
  · cases h
theorem g_apX (hal : ∀ C ∈ al, XS X.K (ct C) ∧ PySem.W.findIn X.K (.ref (ct C)) f = some none) (ho : PE X o (tVar i)) (ha : PQ X ct T a ca) (hb : attributeBase o f X.env (eval o X.env) = eval o X.env := by rfl) (hbase : attributeBase (.Attribute o f fpos) "append" X.env (eval (.Attribute o f fpos) X.env) = eval (.Attribute o f fpos) X.env := by rfl)
    (hfew : ((backTo pos (starEach [a] X.env)).all (fun x => !x.1) && (backToKw pos (keywordEach [] X.env)).all (fun x => x.1.isSome) && decide (([a] : List Expr).length + ([] : List Keyword).length + (if ([] : List Keyword).isEmpty then 0 else 1) < 30)) = true := by rfl)
    (hline : (apos.endLine == pos.line) = true := by rfl) (hst : starEach [a] X.env = (false, eval a X.env) :: starEach [] X.env := by rfl) (hplain : (backTo pos (starEach [] X.env)).any (·.1) = false := by rfl) :
    PV X ct W T (.Call (.Attribute (.Attribute o f fpos) "append" apos) [a] [] pos) (.apX al i f ca) :=
  PE.weak (pe_bm PySem.F.plainAttrs_list PySem.F.slot_list_append PySem.F.type_list_append mt_append (pe_xfl ho hb) (pa_cons ha pa_nil hst) hbase hfew hline hst hplain) fun σ H Q z => by
    obtain ⟨E, s, ce, eK, ec, rfl, w, z⟩ := z
    cases hq : ev T (.apX al i f ca) s with
    | none => rw [RA.non hq] at z; exact z.elim
    | some r =>
      obtain ⟨C, xs, d, h1, h2, hC, fd, hl, rfl⟩ := apX_inv hq
      rw [RA.ok hq] at z
      obtain ⟨v, cd, e2, r, t, ff, k⟩ := w.wr h1
      obtain ⟨S, hno⟩ := hal C hC
      simp only [RT] at r
      obtain ⟨b, dd, fs, rfl, q1, q2, q3, q4⟩ := r
      match fs, q3 with
      | [p0], q3 =>
        obtain ⟨g0, v0⟩ := p0
        simp only [List.map_cons, List.map_nil, List.cons.injEq, and_true] at q3
        subst q3
        simp only [List.map_cons, List.map_nil, RTs, RT] at q4
        obtain ⟨u0, us, c1, c2, e0, ⟨l, vs, c', rfl, g3, rt, rfl⟩, ⟨rfl, rfl⟩, rfl⟩ := q4
        cases e0
        rcases q2 with ⟨_, q2⟩ | ⟨d0, rfl, q2⟩
        · cases q2
        have hct : E.ct = ct := ec
        have tl := t l
        simp only [cadd, cz, one, if_true] at tl
        have cl : c' l = 0 := by omega
        have Fl : E.F l = none := ff l (by simp only [cadd, cz, one, if_true]; omega)
        refine ⟨.ref b, e2, b, ct C, d0, [(g0, .ref l)], .ref l, rfl, S, hno, by rw [← hct]; exact w.same _ _ q1, w.same _ _ q2, by simp [List.lookup], .inl ⟨rfl, vs, .inl (.inl g3)⟩, E, s, ce, d, eK, ec, rfl, w, h2, fun y cy ry => ?_⟩
        have ecy := RT.allF d ry fd
        subst ecy
        have hs : ∀ c : Cn, c l = 0 → Step E c { E with H := upd E.H l (.lst (vs ++ [y])) } := fun c hc => ⟨rfl, rfl, fun _ _ h => h, ⟨[], by simp⟩, fun b o z y' => by
          show upd E.H l (.lst (vs ++ [y])) b = some o
          rw [upd_ne (fun e => z (by rw [e]; exact hc))]
          exact y'⟩
        obtain ⟨st, wd⟩ := k { E with H := upd E.H l (.lst (vs ++ [y])) } (.exc C [g0] [.lst true (xs ++ [d])]) (cadd (cadd (one l) c') cz) rfl rfl rfl rfl (fun p o z y' => by
          show upd E.H l (.lst (vs ++ [y])) p = some o
          rw [upd_ne (fun e => by rw [e] at z; simp [cadd, one] at z)]
          exact y') (fun p => Nat.le_refl _) (by
            simp only [RT]
            refine ⟨b, some d0, [(g0, .ref l)], rfl, q1, .inr ⟨d0, rfl, q2⟩, rfl, ?_⟩
            simp only [List.map_cons, List.map_nil, RTs, RT]
            exact ⟨.ref l, [], _, cz, rfl, ⟨l, _, c', rfl, upd_same, RTs.mono _ (hs c' cl) (rts_snoc rt ry), rfl⟩, ⟨rfl, rfl⟩, rfl⟩)
        exact ⟨l, vs, y, rfl, rfl, g3, by rw [← rt.length]; exact Nat.lt_of_lt_of_le hl (by decide), z .non _ cz st rt_non (wd.less fun p => by simp only [cadd, cz]; omega)⟩
theorem g_mk0 {C x : Str} {p : Pos} (F : Xk X ct C [] false) (tk : Takes X W) (hg : Gl X x) (hm : X.mg x = some (.ref (ct C))) (hdb : (x == ("__debug__" : Str)) = false := by decide) : PV X ct W T (.Call (.Name x p) [] [] pos) (.mkx C [] false []) := by
  obtain ⟨S, fI, k, fd, ps, iC, tI, F1, hr, hb⟩ := F
  refine PE.weak (pe_oex0 S.o iC tI F1 hr hb (passes_call tk (fun _ _ _ _ h => h.elim)) hg hm hdb) fun σ H Q z => ?_
  obtain ⟨E, s, ce, eK, ec, rfl, w, z⟩ := z
  simp only [ev, evs] at z
  intro a hna
  rw [if_neg (by decide)]
  have e0 : (M.ret ([] : List D)).bnd (fun ds => match mkXD [] false ds with
      | some xs => M.ret (D.exc C [] xs.reverse)
      | none => M.fail) s = some (.ok (.exc C [] []) s) := by
    simp only [M.bnd, M.ret]
    rfl
  have z1 : RA W RT' (fun _ => some (.ok (.exc C [] []) s)) σ E s ce Q := by
    unfold RA at z ⊢
    rw [show (M.ret ([] : List D)).bnd _ s = some (.ok (.exc C [] []) s) from e0] at z
    exact z
  refine ⟨a, [], rfl, rfl, upd_same, rfl, upd_same, ?_⟩
  have eu : upd (del (upd E.H a (exo a (ct C) none)) a) a (ExK (.ref (ct C)) none a) = upd E.H a (ExK (.ref (ct C)) none a) := by
    funext c
    by_cases h : c = a
    · rw [h, upd_same, upd_same]
    · rw [upd_ne h, upd_ne h, del_ne h, upd_ne h]
  rw [eu]
  have n : New E (E.layF a (ExK (.ref (ct C)) none a)) := layF_new w.same hna
  rw [RA.ok rfl] at z1
  refine z1 (.ref a) (E.layF a (ExK (.ref (ct C)) none a)) cz (n.step _) ?_ (w.new n (fun _ => Nat.zero_le _) fun q h => absurd rfl h)
  show RT _ (.exc C [] []) (.ref a) cz
  simp only [RT]
  have hct : E.ct = ct := ec
  refine ⟨a, none, [], rfl, ?_, .inl ⟨rfl, rfl⟩, rfl, by simp [RTs]⟩
  show upd E.F a _ a = _
  rw [upd_same]
  show some (ExK (.ref (ct C)) none a) = some (ExK (.ref (E.ct C)) none a)
  rw [hct]
end
end VI
namespace PU
open VI
open L2 (Key)
open PySem (PyData)
section
variable {α β : Type} {T : Tab} {Pn : List Nat}
def bR (r : Option (Res α)) (f : α → M β) : Option (Res β) := match r with
  | some (.ok a s) => f a s
  | some (.ex x s) => some (.ex x s)
  | none => none
theorem b_app (m : M α) (f : α → M β) (s : VS) : M.bnd m f s = bR (m s) f := rfl
theorem b_ok (a : α) (s : VS) (f : α → M β) : bR (some (.ok a s)) f = f a s := rfl
theorem ret_app (a : α) (s : VS) : M.ret a s = some (.ok a s) := rfl
def okF (d : D) (s : VS) : Option (Res D) := if allF d then some (.ok d s) else none
theorem okF_ok {d : D} (s : VS) (h : allF d = true) : okF d s = some (.ok d s) := if_pos h
def qR (o : Option D) (s : VS) : Option (Res D) := match o with
  | some d => okF d s
  | none => none
theorem qR_some (d : D) (s : VS) : qR (some d) s = okF d s := rfl
theorem ev_con (d : D) (s : VS) : ev T (.con d) s = qR (evq T s (.con d)) s := rfl
theorem ev_prq (p : Pr) (as : List Ex) (s : VS) (h : (p.quiet && isQs as) = true) : ev T (.pr p as) s = qR (evq T s (.pr p as)) s := by
  rw [ev, if_pos h]
  rfl
def gR (p : Pr) (o : Option (List D)) (s : VS) : Option (Res D) := match o with
  | some ds => (p.fn ds).map fun d => .ok d s
  | none => none
theorem gR_some (p : Pr) (ds : List D) (s : VS) : gR p (some ds) s = (p.fn ds).map fun d => .ok d s := rfl
theorem ev_prg (p : Pr) (as : List Ex) (s : VS) (h : (p.quiet && isQs as) = false) : ev T (.pr p as) s = bR (evA T as s) fun vs s => gR p (AV.gets s vs) s := by
  rw [ev, if_neg (by rw [h]; decide)]
  rfl
def sR (o : Option (Option D)) (f : D → Option (Res α)) : Option (Res α) := match o with
  | some (some d) => f d
  | _ => none
theorem sR_some (d : D) (f : D → Option (Res α)) : sR (some (some d)) f = f d := rfl
theorem ev_frv (i : Nat) (s : VS) : ev T (.frv i) s = sR s.ρ[i]? fun d => some (.ok (frz d) ⟨s.ρ.set i (some (frz d)), s.μ⟩) := by simp only [ev]; rfl
theorem ev_mov (i : Nat) (s : VS) : ev T (.mov i) s = sR s.ρ[i]? fun d => some (.ok d ⟨s.ρ.set i none, s.μ⟩) := by simp only [ev]; rfl
theorem slot_app (i : Nat) (s : VS) : slotM i s = sR s.ρ[i]? fun _ => some (.ok (.sl i) s) := by
  unfold slotM sR
  cases s.ρ[i]? with
  | none => rfl
  | some o => cases o <;> rfl
theorem evs_nil (s : VS) : evs T [] s = some (.ok [] s) := by simp only [evs]; rfl
theorem evs_cons (a : Ex) (as : List Ex) (s : VS) : evs T (a :: as) s = bR (ev T a s) fun d s => bR (evs T as s) fun ds s => some (.ok (frz d :: ds) s) := by simp only [evs]; rfl
theorem evA_nil (s : VS) : evA T [] s = some (.ok [] s) := by simp only [evA]; rfl
theorem evA_var (i : Nat) (as : List Ex) (s : VS) : evA T (.var i :: as) s = sR s.ρ[i]? fun _ => bR (evA T as s) fun ds s => some (.ok (.sl i :: ds) s) := by
  simp only [evA, b_app, slot_app]
  unfold sR
  split <;> rfl
theorem evA_cons (a : Ex) (as : List Ex) (s : VS) (h : ∀ i, a ≠ .var i) : evA T (a :: as) s = bR (ev T a s) fun d s => bR (evA T as s) fun ds s => some (.ok (.val (frz d) :: ds) s) := by
  cases a <;> first | exact absurd rfl (h _) | (simp only [evA]; rfl)
theorem evG_nil (s : VS) : evG T [] s = some (.ok [] s) := by simp only [evG]; rfl
theorem evG_io (i : Nat) (as : List Ex) (s : VS) : evG T (.io i :: as) s = sR s.ρ[i]? fun _ => bR (evG T as s) fun ds s => some (.ok (.sl i :: ds) s) := by
  simp only [evG, b_app, slot_app]
  unfold sR
  split <;> rfl
theorem evG_cons (a : Ex) (as : List Ex) (s : VS) (h : ∀ i, a ≠ .io i) : evG T (a :: as) s = bR (ev T a s) fun d s => bR (evG T as s) fun ds s => some (.ok (.val (frz d) :: ds) s) := by
  cases a <;> first | exact absurd rfl (h _) | (simp only [evG]; rfl)
theorem ev_lst (as : List Ex) (s : VS) : ev T (.lst as) s = bR (evs T as s) fun ds s => if ds.length ≤ lim then some (.ok (.lst true ds) s) else none := by
  simp only [ev, b_app]
  congr
  funext ds s
  split <;> rfl
def tR (d : D) (f : Bool → M α) : M α := match d with
  | .bl b => f b
  | _ => M.fail
theorem tR_bl (b : Bool) (f : Bool → M α) : tR (.bl b) f = f b := rfl
theorem ev_not (a : Ex) (s : VS) : ev T (.not a) s = bR (ev T a s) fun d => tR d fun b => M.ret (.bl (!b)) := by simp only [ev, b_app]; rfl
theorem ev_and (a b : Ex) (s : VS) : ev T (.and a b) s = bR (ev T a s) fun d => tR d fun k => if k then ev T b else M.ret (.bl false) := by
  simp only [ev, b_app]
  congr
  funext d
  cases d <;> first | rfl | (rename_i k; cases k <;> rfl)
theorem ev_call (f : Nat) (as : List Ex) (s : VS) : ev T (.call f as) s = bR (evG T as s) (callM T f) := by simp only [ev]; rfl
theorem ev_joi (z : PySem.Str) (a : Ex) (s : VS) : ev T (.joi z a) s = bR (ev T a s) fun d => M.opt (joinD (.str z) d) := by simp only [ev]; rfl
theorem xs_nil (s : VS) : VI.execs T Pn [] s = some (.ok .nx s) := by simp only [VI.execs]; rfl
theorem xs_cons (c : Sm) (cs : List Sm) (s : VS) : VI.execs T Pn (c :: cs) s = bR (VI.exec T Pn c s) (seqF (VI.execs T Pn cs)) := by simp only [VI.execs]; rfl
theorem seq_nx (m : M Fl) : seqF m .nx = m := rfl
theorem x_asg (tg : List Nat) (e : Ex) (s : VS) : VI.exec T Pn (.asg tg e) s = bR (ev T e s) fun d => bndT Pn tg d (M.ret .nx) := by simp only [VI.exec]; rfl
theorem x_ex (e : Ex) (s : VS) : VI.exec T Pn (.ex e) s = bR (ev T e s) fun _ => M.ret .nx := by simp only [VI.exec]; rfl
theorem x_ret (e : Ex) (s : VS) : VI.exec T Pn (.ret e) s = bR (ev T e s) fun d => M.ret (.rt d) := by simp only [VI.exec]; rfl
theorem x_ite (e : Ex) (a b : List Sm) (s : VS) : VI.exec T Pn (.ite e a b) s = bR (ev T e s) fun d => tR d fun k => if k then VI.execs T Pn a else VI.execs T Pn b := by
  simp only [VI.exec, b_app]
  congr
theorem x_set (m : Mp) (i : Nat) (k e : Ex) (s : VS) : VI.exec T Pn (.setS m i k e) s = bR (ev T (.mt m (.var i) [e, k]) s) fun _ => M.ret .nx := by simp only [VI.exec]; rfl
def mR (i : Nat) (s : VS) (o : Option (D × D)) : Option (Res D) := match o with
  | some (o', d) => some (.ok d ⟨s.ρ.set i (some o'), s.μ⟩)
  | none => none
theorem ev_mt (m : Mp) (i : Nat) (as : List Ex) (s : VS) : ev T (.mt m (.var i) as) s = sR s.ρ[i]? fun o => if m.kind o then bR (evs T as s) fun ds s => sR s.ρ[i]? fun o => mR i s (m.fn o ds) else none := by
  simp only [ev]
  unfold sR
  cases hq : s.ρ[i]? with
  | none => rfl
  | some oo => cases oo with
    | none => rfl
    | some o =>
      simp only
      by_cases hk : m.kind o = true
      · rw [if_pos hk, if_pos hk, b_app]
        congr
        funext ds s
        cases h2 : s.ρ[i]? with
        | none => rfl
        | some o2 => cases o2 with
          | none => rfl
          | some o3 =>
            simp only
            cases m.fn o3 ds with
            | none => rfl
            | some p => rfl
      · rw [if_neg hk, if_neg hk]
theorem runR_rt (n : Nat) (d : D) (s : VS) : runR n Pn (some (.ok (.rt d) s)) = some (.ok d (outs n Pn s.ρ) s.μ) := rfl
theorem runF_eq (n nN : Nat) (body : List Sm) (ds : List D) (μ : List RO) (h : ds.length = n) : runF T n nN Pn body ds μ = runR n Pn (VI.execs T Pn body ⟨ds.map some ++ List.replicate (nN - n) none, μ⟩) := if_pos h
theorem xs_step {c : Sm} {cs : List Sm} {s s1 : VS} (h : VI.exec T Pn c s = some (.ok .nx s1)) : VI.execs T Pn (c :: cs) s = VI.execs T Pn cs s1 := by
  rw [xs_cons, h]
  rfl
theorem evc_nil (s : VS) : evc T [] s = some (.ok true s) := by simp only [evc]; rfl
theorem ev_lc (tg : List Nat) (sk : Sk) (src cs : List Ex) (e : Ex) (s : VS) : ev T (.lc tg sk src cs e) s = bR (srcM T sk src s) (lcM tg (evc T cs) (ev T e)) := by simp only [ev]; rfl
def oR (o : Option (List D)) (s : VS) : Option (Res (List D)) := match o with
  | some x => some (.ok x s)
  | none => none
theorem oR_some (x : List D) (s : VS) : oR (some x) s = some (.ok x s) := rfl
theorem src_app (sk : Sk) (src : List Ex) (s : VS) : srcM T sk src s = bR (evs T src s) fun ds s => oR (srcD sk ds) s := by
  unfold srcM
  rw [b_app]
  congr
  funext ds s
  cases h : srcD sk ds <;> rfl
theorem lcM_ok {tg : List Nat} {mc : M Bool} {me : M D} {items ds : List D} {s s' : VS} (h : loopC (lcBody tg mc me) items [] ⟨wipeR s.ρ tg, s.μ⟩ = some (.ok ds s')) : lcM tg mc me items s = some (.ok (.lst true ds) ⟨wipeR s'.ρ tg, s'.μ⟩) := by
  unfold lcM
  rw [h]
  rfl
theorem x_for (tg : List Nat) (sk : Sk) (src : List Ex) (b : List Sm) (s : VS) : VI.exec T Pn (.for tg sk src b) s = bR (srcM T sk src s) (fun items => exOf sk (forM Pn tg (VI.execs T Pn b) items)) := by simp only [VI.exec]; rfl
end
end PU
namespace PU
open VI
open L2 (Key)
open PySem (PyData)
structure Nm where
  l : List Nat
  ok : (l.all fun c => decide (c < 1114112)) = true
deriving DecidableEq
def Nm.s (x : Nm) : PySem.Str := ⟨x.l.toArray⟩
def nm (z : PySem.Str) (h : (z.cps.toList.all fun c => decide (c < 1114112)) = true := by decide +kernel) : Nm := ⟨z.cps.toList, h⟩
theorem Nm.s_inj {a b : Nm} (h : a.s = b.s) : a = b := by
  obtain ⟨a, ha⟩ := a
  obtain ⟨b, hb⟩ := b
  have := congrArg (fun s : PySem.Str => s.cps.toList) h
  simp only [Nm.s] at this
  congr
structure Tr (α β γ : Type) where
  a : α
  b : β
  c : γ
deriving DecidableEq
structure Tu (α : Type) where
  l : List α
deriving DecidableEq
structure Dct (κ ν : Type) where
  l : List (κ × ν)
deriving DecidableEq
structure Rf where
  k : Nat
deriving DecidableEq
structure Scr where
  l : List Int
class Cod (α : Type) where
  enc : α → D
  fz : ∀ a, allF (enc a) = true
open Cod (enc)
class NoR (α : Type) [Cod α] : Prop where
  nr : ∀ a : α, noRef (enc a) = true
class Keyc (κ : Type) [Cod κ] where
  key : κ → Key
  ok : ∀ a, keyOf (enc a) = some (key a)
  inj : ∀ a b, key a = key b → a = b
  back : ∀ a, keyD (key a) = enc a
theorem allFs_map {α : Type} {f : α → D} (h : ∀ a, allF (f a) = true) : ∀ l : List α, allFs (l.map f) = true
  | [] => rfl
  | a :: l => by simp only [List.map_cons, allFs, h a, allFs_map h l, Bool.and_self]
theorem noRefs_map {α : Type} {f : α → D} (h : ∀ a, noRef (f a) = true) : ∀ l : List α, noRefs (l.map f) = true
  | [] => rfl
  | a :: l => by simp only [List.map_cons, noRefs, h a, noRefs_map h l, Bool.and_self]
instance : Cod Unit := ⟨fun _ => .non, fun _ => rfl⟩
instance : Cod Bool := ⟨.bl, fun _ => rfl⟩
instance : Cod Int := ⟨.int, fun _ => rfl⟩
instance : Cod Nm := ⟨fun x => .str x.s, fun _ => rfl⟩
instance : Cod Rf := ⟨fun x => .ref x.k, fun _ => rfl⟩
instance : Cod Scr := ⟨fun x => .scr x.l, fun _ => rfl⟩
instance {α : Type} [Cod α] : Cod (List α) := ⟨fun l => .lst false (l.map enc), fun l => by simp only [allF, allFs_map Cod.fz, Bool.not_false, Bool.and_self]⟩
instance {α : Type} [Cod α] : Cod (Tu α) := ⟨fun l => .tup (l.l.map enc), fun l => by simp only [allF, allFs_map Cod.fz]⟩
instance {α β : Type} [Cod α] [Cod β] : Cod (α × β) := ⟨fun x => .tup [enc x.1, enc x.2], fun x => by simp only [allF, allFs, Cod.fz, Bool.and_self]⟩
instance {α β γ : Type} [Cod α] [Cod β] [Cod γ] : Cod (Tr α β γ) := ⟨fun x => .tup [enc x.a, enc x.b, enc x.c], fun x => by simp only [allF, allFs, Cod.fz, Bool.and_self]⟩
instance {α : Type} [Cod α] : Cod (Option α) := ⟨fun x => match x with | none => .non | some a => enc a, fun x => by cases x <;> simp only [allF, Cod.fz]⟩
instance {κ ν : Type} [Cod κ] [Keyc κ] [Cod ν] : Cod (Dct κ ν) := ⟨fun x => .dic false (x.l.map fun p => Keyc.key p.1) (x.l.map fun p => enc p.2), fun l => by simp only [allF, allFs_map (f := fun p : κ × ν => enc p.2) (fun p => Cod.fz p.2), Bool.not_false, Bool.and_self]⟩
instance : NoR Unit := ⟨fun _ => rfl⟩
instance : NoR Bool := ⟨fun _ => rfl⟩
instance : NoR Int := ⟨fun _ => rfl⟩
instance : NoR Nm := ⟨fun _ => rfl⟩
instance : NoR Scr := ⟨fun _ => rfl⟩
instance {α : Type} [Cod α] [NoR α] : NoR (List α) := ⟨fun l => by simp only [enc, noRef, noRefs_map NoR.nr]⟩
instance {α : Type} [Cod α] [NoR α] : NoR (Tu α) := ⟨fun l => by simp only [enc, noRef, noRefs_map NoR.nr]⟩
instance {α β : Type} [Cod α] [Cod β] [NoR α] [NoR β] : NoR (α × β) := ⟨fun x => by simp only [enc, noRef, noRefs, NoR.nr, Bool.and_self]⟩
instance {α β γ : Type} [Cod α] [Cod β] [Cod γ] [NoR α] [NoR β] [NoR γ] : NoR (Tr α β γ) := ⟨fun x => by simp only [enc, noRef, noRefs, NoR.nr, Bool.and_self]⟩
instance {α : Type} [Cod α] [NoR α] : NoR (Option α) := ⟨fun x => by cases x <;> simp only [enc, noRef, NoR.nr]⟩
instance {κ ν : Type} [Cod κ] [Keyc κ] [Cod ν] [NoR ν] : NoR (Dct κ ν) := ⟨fun x => by simp only [enc, noRef, noRefs_map (f := fun p : κ × ν => enc p.2) (fun p => NoR.nr p.2)]⟩
instance : Keyc Int := ⟨.inl, fun _ => rfl, fun _ _ h => by cases h; rfl, fun _ => rfl⟩
instance : Keyc Nm := ⟨fun x => .inr x.s, fun _ => rfl, fun a b h => Nm.s_inj (Sum.inr.inj h), fun _ => rfl⟩
inductive Kd where | o | f | a
def ow0 : D → D
  | .lst _ ds => .lst true ds
  | .dic _ ks ds => .dic true ks ds
  | .dicN _ ks ds => .dicN true ks ds
  | d => d
def ow : D → D
  | .lst _ ds => .lst true ds
  | .dic _ ks ds => .dic true ks ds
  | .dicN _ ks ds => .dicN true ks ds
  | .exc C fn ds => .exc C fn (ds.map ow0)
  | d => d
theorem frz_ow0 : ∀ {x : D}, allF x = true → frz (ow0 x) = x
  | .non, _ => rfl | .bl _, _ => rfl | .int _, _ => rfl | .str _, _ => rfl | .ref _, _ => rfl | .scr _, _ => rfl
  | .lst o ds, h => by
    have := frz_id _ h
    simp only [ow0, frz] at this ⊢
    exact this
  | .dic o ks ds, h => by
    have := frz_id _ h
    simp only [ow0, frz] at this ⊢
    exact this
  | .dicN o ks ds, h => by
    have := frz_id _ h
    simp only [ow0, frz] at this ⊢
    exact this
  | .tup ds, h => frz_id _ h
  | .ins C fn ds, h => frz_id _ h
  | .exc C fn ds, h => frz_id _ h
theorem noRef_ow0 (d : D) : noRef (ow0 d) = noRef d := by cases d <;> rfl
theorem noRefs_ow0 : ∀ ds : List D, noRefs (ds.map ow0) = noRefs ds
  | [] => rfl
  | d :: ds => by simp only [List.map_cons, noRefs, noRef_ow0, noRefs_ow0 ds]
theorem frzs_ow0 : ∀ {ds : List D}, allFs ds = true → frzs (ds.map ow0) = ds
  | [], _ => rfl
  | d :: ds, h => by
    simp only [allFs, Bool.and_eq_true] at h
    simp only [List.map_cons, frzs, frz_ow0 h.1, frzs_ow0 h.2]
def hd : Kd → D → D → Prop
  | .f, x, d => d = x
  | .o, x, d => d = ow x
  | .a, x, d => d = x ∨ d = ow x
theorem frz_ow : ∀ {x : D}, allF x = true → frz (ow x) = x
  | .non, _ => rfl | .bl _, _ => rfl | .int _, _ => rfl | .str _, _ => rfl | .ref _, _ => rfl | .scr _, _ => rfl
  | .lst o ds, h => by
    have := frz_id _ h
    simp only [ow, frz] at this ⊢
    exact this
  | .dic o ks ds, h => by
    have := frz_id _ h
    simp only [ow, frz] at this ⊢
    exact this
  | .dicN o ks ds, h => by
    have := frz_id _ h
    simp only [ow, frz] at this ⊢
    exact this
  | .tup ds, h => frz_id _ h
  | .ins C fn ds, h => frz_id _ h
  | .exc C fn ds, h => by
    simp only [ow, frz]
    rw [frzs_ow0 h]
theorem hd_frz {k : Kd} {x d : D} (hx : allF x = true) (h : hd k x d) : frz d = x := by
  cases k with
  | o => rw [h]; exact frz_ow hx
  | f => rw [h]; exact frz_id _ hx
  | a => rcases h with rfl | rfl
         · exact frz_id _ hx
         · exact frz_ow hx
theorem hd_a {k : Kd} {x d : D} (h : hd k x d) : hd .a x d := by
  cases k with
  | o => exact .inr h
  | f => exact .inl h
  | a => exact h
theorem hd_frzE {α : Type} [Cod α] {k : Kd} {x : α} {d : D} (h : hd k (enc x) d) : frz d = enc x := hd_frz (Cod.fz x) h
inductive SA where
  | j | e | v (k : Kd) (x : D)
def SA.H : SA → Option D → Prop
  | .j, _ => True
  | .e, y => y = none
  | .v k x, y => ∃ d, y = some d ∧ hd k x d
def HL : List SA → List (Option D) → Prop
  | [], [] => True
  | a :: A, y :: ρ => a.H y ∧ HL A ρ
  | _, _ => False
structure SS where
  A : List SA
  μ : List RO
def St (S : SS) (s : VS) : Prop := HL S.A s.ρ ∧ s.μ = S.μ
def lk : List SA → Nat → SA
  | a :: _, 0 => a
  | _ :: A, i + 1 => lk A i
  | [], _ => .j
def stA : List SA → Nat → SA → List SA
  | _ :: A, 0, x => x :: A
  | a :: A, i + 1, x => a :: stA A i x
  | [], _, _ => []
def SS.st (S : SS) (i : Nat) (x : SA) : SS := ⟨stA S.A i x, S.μ⟩
theorem HL.get : ∀ {A : List SA} {ρ : List (Option D)} {i : Nat} {k : Kd} {x : D}, HL A ρ → lk A i = .v k x → ∃ d, ρ[i]? = some (some d) ∧ hd k x d
  | [], _, _, _, _, _, e => by simp [lk] at e
  | a :: A, [], _, _, _, h, _ => by simp [HL] at h
  | a :: A, y :: ρ, 0, k, x, h, e => by
    simp only [lk] at e
    subst e
    obtain ⟨d, rfl, hd⟩ := h.1
    exact ⟨d, rfl, hd⟩
  | a :: A, y :: ρ, i + 1, k, x, h, e => by
    simp only [lk] at e
    obtain ⟨d, e1, e2⟩ := HL.get h.2 e
    exact ⟨d, by simpa using e1, e2⟩
theorem HL.set : ∀ {A : List SA} {ρ : List (Option D)} {i : Nat} {x : SA} {y : Option D}, HL A ρ → x.H y → HL (stA A i x) (ρ.set i y)
  | [], [], _, _, _, _, _ => trivial
  | [], _ :: _, _, _, _, h, _ => h.elim
  | a :: A, [], _, _, _, h, _ => h.elim
  | a :: A, z :: ρ, 0, x, y, h, hy => ⟨hy, h.2⟩
  | a :: A, z :: ρ, i + 1, x, y, h, hy => ⟨h.1, HL.set h.2 hy⟩
theorem HL.len : ∀ {A : List SA} {ρ : List (Option D)}, HL A ρ → A.length = ρ.length
  | [], [], _ => rfl
  | [], _ :: _, h => h.elim
  | a :: A, [], h => h.elim
  | a :: A, z :: ρ, h => by simp [HL.len h.2]
theorem St.get {S : SS} {s : VS} {i : Nat} {k : Kd} {x : D} (h : St S s) (e : lk S.A i = .v k x) : ∃ d, s.ρ[i]? = some (some d) ∧ hd k x d := h.1.get e
theorem St.set {S : SS} {s : VS} {i : Nat} {x : SA} {y : Option D} (h : St S s) (hy : x.H y) : St (S.st i x) ⟨s.ρ.set i y, s.μ⟩ := ⟨h.1.set hy, h.2⟩
def Le1 (a b : SA) : Prop := ∀ y, a.H y → b.H y
inductive LeA : List SA → List SA → Prop
  | nil : LeA [] []
  | cons {a b : SA} {A B : List SA} : Le1 a b → LeA A B → LeA (a :: A) (b :: B)
theorem le_r {a : SA} : Le1 a a := fun _ h => h
theorem le_j {a : SA} : Le1 a .j := fun _ _ => trivial
theorem LeA.hl : ∀ {A B : List SA} {ρ : List (Option D)}, LeA A B → HL A ρ → HL B ρ
  | _, _, [], .nil, h => h
  | _, _, _ :: _, .nil, h => h.elim
  | _, _, [], .cons _ _, h => h.elim
  | _, _, _ :: _, .cons h1 h2, h => ⟨h1 _ h.1, h2.hl h.2⟩
structure Le (S S' : SS) : Prop where
  a : LeA S.A S'.A
  m : S.μ = S'.μ
theorem Le.st {S S' : SS} {s : VS} (l : Le S S') (h : St S s) : St S' s := ⟨l.a.hl h.1, h.2.trans l.m⟩
theorem LeA.refl : ∀ A : List SA, LeA A A
  | [] => .nil
  | _ :: A => .cons le_r (LeA.refl A)
theorem Le.refl (S : SS) : Le S S := ⟨LeA.refl _, rfl⟩
section
variable {α β γ δ ε : Type}
def EQ (T : Tab) (e : Ex) (S : SS) [Cod β] (k : Kd) (c : Option β) : Prop := ∀ s, St S s → ∀ a, c = some a → ∃ d, evq T s e = some d ∧ hd k (enc a) d
def EV (T : Tab) (e : Ex) (S : SS) [Cod β] (c : Option α) (k : Kd) (g : α → β) (S' : α → SS) : Prop :=
  ∀ s, St S s → ∀ a, c = some a → ∃ d s', ev T e s = some (.ok d s') ∧ hd k (enc (g a)) d ∧ St (S' a) s'
abbrev EC (T : Tab) (e : Ex) (S : SS) [Cod β] (c : Option β) (k : Kd) (S' : SS) : Prop := EV T e S c k id fun _ => S'
def iosOf : List Ex → List (Option Nat)
  | [] => []
  | .io i :: es => some i :: iosOf es
  | _ :: es => none :: iosOf es
def avIos : List AV → List (Option Nat)
  | [] => []
  | .sl i :: as => some i :: avIos as
  | .val _ :: as => none :: avIos as
def EG (T : Tab) (es : List Ex) (S : SS) (c : Option α) (L : α → List AV) (S' : α → SS) : Prop :=
  ∀ s, St S s → ∀ a, c = some a → avIos (L a) = iosOf es ∧ ∃ s', evG T es s = some (.ok (L a) s') ∧ St (S' a) s'
def FS (m : List D → List RO → Option CR) (ds : List D) (μ : List RO) [Cod β] (c : Option α) (k : Kd) (g : α → β) (L : α → List SA) (μ' : α → List RO) : Prop :=
  ∀ a, c = some a → ∃ d ps, m ds μ = some (.ok d ps (μ' a)) ∧ hd k (enc (g a)) d ∧ HL (L a) ps
def XS (T : Tab) (Pn : List Nat) (cs : List Sm) (S : SS) (c : Option α) (Q : α → Fl → VS → Prop) : Prop :=
  ∀ s, St S s → ∀ a, c = some a → ∃ fl s', VI.execs T Pn cs s = some (.ok fl s') ∧ Q a fl s'
def X1 (T : Tab) (Pn : List Nat) (st : Sm) (S : SS) (c : Option α) (S' : α → SS) : Prop :=
  ∀ s, St S s → ∀ a, c = some a → ∃ s', VI.exec T Pn st s = some (.ok .nx s') ∧ St (S' a) s'
end
theorem bind_some {α β : Type} {c : Option α} {f : α → Option β} {b : β} (h : c.bind f = some b) : ∃ a, c = some a ∧ f a = some b := by
  cases c with
  | none => cases h
  | some a => exact ⟨a, rfl, h⟩
theorem map_some {α β : Type} {c : Option α} {f : α → β} {b : β} (h : c.map f = some b) : ∃ a, c = some a ∧ f a = b := by
  cases c with
  | none => cases h
  | some a => exact ⟨a, rfl, Option.some.inj h⟩
theorem set_same {α : Type} {l : List α} {i : Nat} {x : α} (h : l[i]? = some x) : l.set i x = l := by
  apply List.ext_getElem?
  intro j
  by_cases e : i = j
  · subst e
    rw [List.getElem?_set_self (List.getElem?_eq_some_iff.mp h).1, h]
  · rw [List.getElem?_set_ne e]
end PU
namespace PU
open VI
open L2 (Key)
open Cod (enc)
open PySem (PyData)
theorem hd_int {k : Kd} {x : Int} {d : D} (h : hd k (enc x) d) : d = .int x := by cases k <;> first | exact h | (rcases h with h | h <;> exact h)
theorem hd_bl {k : Kd} {x : Bool} {d : D} (h : hd k (enc x) d) : d = .bl x := by cases k <;> first | exact h | (rcases h with h | h <;> exact h)
theorem hd_nm {k : Kd} {x : Nm} {d : D} (h : hd k (enc x) d) : d = .str x.s := by cases k <;> first | exact h | (rcases h with h | h <;> exact h)
theorem hd_scr {k : Kd} {x : Scr} {d : D} (h : hd k (enc x) d) : d = .scr x.l := by cases k <;> first | exact h | (rcases h with h | h <;> exact h)
theorem hd_l {α : Type} [Cod α] {k : Kd} {x : List α} {d : D} (h : hd k (enc x) d) : ∃ o, d = .lst o (x.map enc) := by
  cases k with
  | o => exact ⟨_, h⟩
  | f => exact ⟨_, h⟩
  | a => rcases h with h | h <;> exact ⟨_, h⟩
theorem hd_p {α β : Type} [Cod α] [Cod β] {k : Kd} {x : α × β} {d : D} (h : hd k (enc x) d) : d = .tup [enc x.1, enc x.2] := by cases k <;> first | exact h | (rcases h with h | h <;> exact h)
theorem hd_tr {α β γ : Type} [Cod α] [Cod β] [Cod γ] {k : Kd} {x : Tr α β γ} {d : D} (h : hd k (enc x) d) : d = .tup [enc x.a, enc x.b, enc x.c] := by cases k <;> first | exact h | (rcases h with h | h <;> exact h)
theorem hd_tu {α : Type} [Cod α] {k : Kd} {x : Tu α} {d : D} (h : hd k (enc x) d) : d = .tup (x.l.map enc) := by cases k <;> first | exact h | (rcases h with h | h <;> exact h)
namespace Dct
variable {κ ν : Type} [DecidableEq κ]
def getL : List (κ × ν) → κ → Option ν
  | [], _ => none
  | p :: l, k => if p.1 = k then some p.2 else getL l k
def get (d : Dct κ ν) (k : κ) : Option ν := getL d.l k
def has (d : Dct κ ν) (k : κ) : Bool := (d.get k).isSome
def set (d : Dct κ ν) (k : κ) (v : ν) : Dct κ ν := if d.has k then ⟨d.l.map fun p => if p.1 = k then (p.1, v) else p⟩ else ⟨d.l ++ [(k, v)]⟩
def keys (d : Dct κ ν) : List κ := d.l.map (·.1)
def vals (d : Dct κ ν) : List ν := d.l.map (·.2)
end Dct
class Eqc (α : Type) [Cod α] [DecidableEq α] where
  py : α → PyData
  to : ∀ a, toPy (enc a) = some (py a)
  lay : ∀ a, (py a).canLay0 = true
  dp : Nat
  dep : ∀ a, (py a).depth ≤ dp
  lo : dp ≤ 12
  eqv : ∀ a b, PyData.eqv (py a) (py b) = decide (a = b)
theorem toPy_ow : ∀ d, toPy (ow d) = toPy d
  | .non => rfl | .bl _ => rfl | .int _ => rfl | .str _ => rfl | .ref _ => rfl | .scr _ => rfl
  | .lst _ _ => rfl | .dic _ _ _ => rfl | .dicN _ _ _ => rfl | .tup _ => rfl | .ins _ _ _ => rfl | .exc _ _ _ => rfl
theorem hd_py {α : Type} [Cod α] [DecidableEq α] [Eqc α] {k : Kd} {x : α} {d : D} (h : hd k (enc x) d) : toPy d = some (Eqc.py x) := by
  have h1 : d = enc x ∨ d = ow (enc x) := hd_a h
  rcases h1 with rfl | rfl
  · exact Eqc.to x
  · rw [toPy_ow]; exact Eqc.to x
theorem shaped_py {x : PyData} (h1 : x.canLay0 = true) (h2 : x.depth ≤ 14) : PySem.SeqAt.shaped x = true := by
  unfold PySem.SeqAt.shaped
  have : x.depth ≤ 64 := by omega
  simp only [h1, this, decide_true, Bool.and_self]
theorem toPys_map {α : Type} [Cod α] [DecidableEq α] [Eqc α] : ∀ l : List α, toPys (l.map enc) = some (l.map Eqc.py)
  | [] => rfl
  | a :: l => by simp only [List.map_cons, toPys, Eqc.to, toPys_map l]
theorem lay_map {α : Type} [Cod α] [DecidableEq α] [Eqc α] : ∀ l : List α, PyData.canLayAll0 (l.map (Eqc.py (α := α))) = true
  | [] => rfl
  | a :: l => by simp only [List.map_cons, PyData.canLayAll0, Eqc.lay, lay_map l, Bool.and_self]
theorem dep_map {α : Type} [Cod α] [DecidableEq α] [Eqc α] : ∀ l : List α, PyData.depthAll (l.map (Eqc.py (α := α))) ≤ Eqc.dp α
  | [] => by simp [PyData.depthAll]
  | a :: l => by
    simp only [List.map_cons, PyData.depthAll]
    have := Eqc.dep a
    have := dep_map l
    omega
theorem eqvAll_py {α : Type} [Cod α] [DecidableEq α] [Eqc α] : ∀ a b : List α, PyData.eqvAll (a.map (Eqc.py (α := α))) (b.map Eqc.py) = decide (a = b)
  | [], [] => by simp [PyData.eqvAll]
  | [], _ :: _ => by simp [PyData.eqvAll]
  | _ :: _, [] => by simp [PyData.eqvAll]
  | x :: a, y :: b => by
    simp only [List.map_cons, PyData.eqvAll, eqvAll_py a b, Eqc.eqv, List.cons.injEq]
    by_cases hx : x = y <;> by_cases ha : a = b <;> simp [hx, ha]
instance : Eqc Unit := ⟨fun _ => .none, fun _ => rfl, fun _ => rfl, 1, fun _ => by simp [PyData.depth], by decide, fun _ _ => rfl⟩
instance : Eqc Int := ⟨.int, fun _ => rfl, fun _ => rfl, 1, fun _ => by simp [PyData.depth], by decide, fun i j => by
  simp only [PyData.eqv]
  by_cases h : i = j <;> simp [h]⟩
instance : Eqc Bool := ⟨.bool, fun _ => rfl, fun _ => rfl, 1, fun _ => by simp [PyData.depth], by decide, fun i j => by cases i <;> cases j <;> rfl⟩
instance : Eqc Nm := ⟨fun x => .str x.s, fun _ => rfl, fun x => by
  show PySem.PyData.strOk x.s = true
  unfold PySem.PyData.strOk Nm.s
  have := x.ok
  simpa using this, 1, fun _ => by simp [PyData.depth], by decide, fun a b => by
  simp only [PyData.eqv]
  by_cases h : a = b
  · simp [h]
  · have : ¬ a.s = b.s := fun e => h (Nm.s_inj e)
    simp [h, this]⟩
class Room (α : Type) [Cod α] [DecidableEq α] [Eqc α] : Prop where
  r : Eqc.dp α ≤ 11
instance {α : Type} [Cod α] [DecidableEq α] [Eqc α] [Room α] : Eqc (List α) := ⟨fun l => .list (l.map Eqc.py), fun l => by
  show (toPys (l.map enc)).map PyData.list = _
  rw [toPys_map]
  rfl, fun l => lay_map l, Eqc.dp α + 1, fun l => by
  simp only [PyData.depth]
  have := dep_map l
  omega, by have := Room.r (α := α); omega, fun a b => by simp only [PyData.eqv, eqvAll_py]⟩
instance {α : Type} [Cod α] [DecidableEq α] [Eqc α] [Room α] : Eqc (Tu α) := ⟨fun l => .tuple (l.l.map Eqc.py), fun l => by
  show (toPys (l.l.map enc)).map PyData.tuple = _
  rw [toPys_map]
  rfl, fun l => lay_map l.l, Eqc.dp α + 1, fun l => by
  simp only [PyData.depth]
  have := dep_map l.l
  omega, by have := Room.r (α := α); omega, fun a b => by
  simp only [PyData.eqv, eqvAll_py]
  obtain ⟨a⟩ := a
  obtain ⟨b⟩ := b
  by_cases h : a = b <;> simp [h]⟩
instance {α β : Type} [Cod α] [DecidableEq α] [Eqc α] [Room α] [Cod β] [DecidableEq β] [Eqc β] [Room β] : Eqc (α × β) := ⟨fun x => .tuple [Eqc.py x.1, Eqc.py x.2], fun x => by
  show (toPys [enc x.1, enc x.2]).map PyData.tuple = _
  simp only [toPys, Eqc.to, Option.map_some], fun x => by simp only [PyData.canLay0, PyData.canLayAll0, Eqc.lay, Bool.and_self], max (Eqc.dp α) (Eqc.dp β) + 1, fun x => by
  simp only [PyData.depth, PyData.depthAll]
  have := Eqc.dep x.1
  have := Eqc.dep x.2
  omega, by have := Room.r (α := α); have := Room.r (α := β); omega, fun a b => by
  simp only [PyData.eqv, PyData.eqvAll, Eqc.eqv]
  obtain ⟨a1, a2⟩ := a
  obtain ⟨b1, b2⟩ := b
  by_cases h1 : a1 = b1 <;> by_cases h2 : a2 = b2 <;> simp [h1, h2]⟩
instance {α β γ : Type} [Cod α] [DecidableEq α] [Eqc α] [Room α] [Cod β] [DecidableEq β] [Eqc β] [Room β] [Cod γ] [DecidableEq γ] [Eqc γ] [Room γ] : Eqc (Tr α β γ) := ⟨fun x => .tuple [Eqc.py x.a, Eqc.py x.b, Eqc.py x.c], fun x => by
  show (toPys [enc x.a, enc x.b, enc x.c]).map PyData.tuple = _
  simp only [toPys, Eqc.to, Option.map_some], fun x => by simp only [PyData.canLay0, PyData.canLayAll0, Eqc.lay, Bool.and_self], max (Eqc.dp α) (max (Eqc.dp β) (Eqc.dp γ)) + 1, fun x => by
  simp only [PyData.depth, PyData.depthAll]
  have := Eqc.dep x.a
  have := Eqc.dep x.b
  have := Eqc.dep x.c
  omega, by have := Room.r (α := α); have := Room.r (α := β); have := Room.r (α := γ); omega, fun a b => by
  simp only [PyData.eqv, PyData.eqvAll, Eqc.eqv]
  obtain ⟨a1, a2, a3⟩ := a
  obtain ⟨b1, b2, b3⟩ := b
  by_cases h1 : a1 = b1 <;> by_cases h2 : a2 = b2 <;> by_cases h3 : a3 = b3 <;> simp [h1, h2, h3]⟩
instance : Room Int := ⟨by decide⟩
instance : Room Bool := ⟨by decide⟩
instance : Room Nm := ⟨by decide⟩
instance : Room Unit := ⟨by decide⟩
end PU
namespace PU
open VI
open L2 (Key)
open Cod (enc)
open PySem (PyData)
section
variable {α β γ δ : Type}
def O1 (p : Pr) [Cod α] [Cod β] (k : Kd) (f : α → Option β) : Prop := ∀ x z d1, f x = some z → hd .a (enc x) d1 → ∃ d, p.fn [d1] = some d ∧ hd k (enc z) d
def O2 (p : Pr) [Cod α] [Cod β] [Cod γ] (k : Kd) (f : α → β → Option γ) : Prop := ∀ x y z d1 d2, f x y = some z → hd .a (enc x) d1 → hd .a (enc y) d2 → ∃ d, p.fn [d1, d2] = some d ∧ hd k (enc z) d
def mulI (x y : Int) : Option Int := if x.natAbs.log2 + y.natAbs.log2 < 1000000 then some (x * y) else none
def modI (x y : Int) : Option Int := if 0 < y then some (x % y) else none
def fdivI (x y : Int) : Option Int := if 0 < y ∧ y.natAbs.log2 < 9000 then some (x / y) else none
def powI (x y : Int) : Option Int := if 0 ≤ y ∧ y ≤ 1000000 ∧ x.natAbs < 2 ^ 64 then some (x ^ y.toNat) else none
def b2i (b : Bool) : Int := if b then 1 else 0
def absI (i : Int) : Int := if i < 0 then -i else i
theorem if_some {p : Prop} [Decidable p] {a b : α} (h : (if p then some a else none) = some b) : p ∧ a = b := by
  split at h
  · exact ⟨by assumption, Option.some.inj h⟩
  · cases h
theorem o_addI : O2 .add .f (fun x y : Int => some (x + y)) := fun x y z d1 d2 h h1 h2 => by
  rw [hd_int h1, hd_int h2]; cases h; exact ⟨_, rfl, rfl⟩
theorem o_mulI : O2 .mul .f mulI := fun x y z d1 d2 h h1 h2 => by
  rw [hd_int h1, hd_int h2]
  obtain ⟨c, rfl⟩ := if_some h
  exact ⟨_, if_pos c, rfl⟩
theorem o_modI : O2 .mod .f modI := fun x y z d1 d2 h h1 h2 => by
  rw [hd_int h1, hd_int h2]
  obtain ⟨c, rfl⟩ := if_some h
  exact ⟨_, if_pos c, rfl⟩
theorem o_fdivI : O2 .fdiv .f fdivI := fun x y z d1 d2 h h1 h2 => by
  rw [hd_int h1, hd_int h2]
  obtain ⟨c, rfl⟩ := if_some h
  exact ⟨_, if_pos c, rfl⟩
theorem o_powI : O2 .pow .f powI := fun x y z d1 d2 h h1 h2 => by
  rw [hd_int h1, hd_int h2]
  obtain ⟨c, rfl⟩ := if_some h
  exact ⟨_, if_pos c, rfl⟩
theorem o_neg : O1 .neg .f (fun x : Int => some (-x)) := fun x z d1 h h1 => by
  rw [hd_int h1]; cases h; exact ⟨_, rfl, rfl⟩
theorem o_int1 : O1 .int1 .f (fun x : Int => some x) := fun x z d1 h h1 => by
  rw [hd_int h1]; cases h; exact ⟨_, rfl, rfl⟩
theorem o_int1B : O1 .int1 .f (fun x : Bool => some (b2i x)) := fun x z d1 h h1 => by
  rw [hd_bl h1]; cases h; exact ⟨_, rfl, rfl⟩
theorem o_abs : O1 .abs .f (fun x : Int => some (absI x)) := fun x z d1 h h1 => by
  rw [hd_int h1]; cases h; exact ⟨_, rfl, rfl⟩
theorem o_lt : O2 .lt .f (fun x y : Int => some (decide (x < y))) := fun x y z d1 d2 h h1 h2 => by
  rw [hd_int h1, hd_int h2]; cases h; exact ⟨_, rfl, rfl⟩
theorem o_ge : O2 .ge .f (fun x y : Int => some (decide (y ≤ x))) := fun x y z d1 d2 h h1 h2 => by
  rw [hd_int h1, hd_int h2]; cases h; exact ⟨_, rfl, rfl⟩
def eqB [DecidableEq α] (x y : α) : Bool := decide (x = y)
def memB [DecidableEq α] (x : α) (l : List α) : Bool := decide (x ∈ l)
@[simp] theorem eqB_eq [DecidableEq α] (x y : α) : eqB x y = decide (x = y) := rfl
@[simp] theorem memB_eq [DecidableEq α] (x : α) (l : List α) : memB x l = decide (x ∈ l) := rfl
theorem eqD_py {k k' : Kd} [Cod α] [DecidableEq α] [Eqc α] {x y : α} {d e : D} (h1 : hd k (enc x) d) (h2 : hd k' (enc y) e) : eqD d e = some (decide (x = y)) := by
  have s1 := shaped_py (Eqc.lay x) (by have := Eqc.dep x; have := Eqc.lo (α := α); omega)
  have s2 := shaped_py (Eqc.lay y) (by have := Eqc.dep y; have := Eqc.lo (α := α); omega)
  simp only [eqD, hd_py h1, hd_py h2, s1, s2, Bool.and_self, if_true, Eqc.eqv]
theorem o_eq [Cod α] [DecidableEq α] [Eqc α] : O2 .eq .f (fun x y : α => some (eqB x y)) := fun x y z d1 d2 h h1 h2 => by
  cases h
  refine ⟨.bl (decide (x = y)), ?_, rfl⟩
  show (eqD d1 d2).map _ = _
  rw [eqD_py h1 h2]
  rfl
theorem o_ne [Cod α] [DecidableEq α] [Eqc α] : O2 .ne .f (fun x y : α => some (!eqB x y)) := fun x y z d1 d2 h h1 h2 => by
  cases h
  refine ⟨.bl (!decide (x = y)), ?_, rfl⟩
  show (eqD d1 d2).map _ = _
  rw [eqD_py h1 h2]
  rfl
class Flc (α : Type) [Cod α] [DecidableEq α] : Prop where
  eqF : ∀ x y : α, flatD (enc x) = true → flatD (enc y) = true → eqF (enc y) (enc x) = decide (y = x)
instance : Flc Int := ⟨fun x y _ _ => rfl⟩
instance : Flc Nm := ⟨fun x y _ _ => by
  show (y.s == x.s) = _
  by_cases h : y = x
  · subst h; simp
  · have : ¬ y.s = x.s := fun e => h (Nm.s_inj e)
    simp [h, this]⟩
instance [Cod α] [Cod β] [DecidableEq α] [DecidableEq β] : Flc (α × β) := ⟨fun x y h _ => by simp [enc, flatD] at h⟩
instance [Cod α] [DecidableEq α] : Flc (List α) := ⟨fun x y h _ => by simp [enc, flatD] at h⟩
instance [Cod α] [DecidableEq α] : Flc (Tu α) := ⟨fun x y h _ => by simp [enc, flatD] at h⟩
variable {κ ν : Type} [Cod κ] [Keyc κ] [Cod ν] [DecidableEq κ]
theorem okA_enc [Cod α] (x : α) : okA (enc x) = some (enc x) := by unfold okA; rw [if_pos (Cod.fz x)]
def dctP (l : List (κ × ν)) : Dct κ ν := l.foldl (fun d p => d.set p.1 p.2) ⟨[]⟩
def at' (l : List α) (i : Int) : Option α := L2.atI l i
theorem atI_map (f : α → β) (l : List α) (i : Int) : L2.atI (l.map f) i = (L2.atI l i).map f := by
  unfold L2.atI
  rw [List.length_map]
  cases L2.ixN l.length i with
  | none => rfl
  | some j => simp only [Option.bind_some, List.getElem?_map]
theorem o_ixL [Cod α] : O2 .ix .f (fun (l : List α) (i : Int) => at' l i) := fun x y z d1 d2 h h1 h2 => by
  obtain ⟨o, rfl⟩ := hd_l h1
  rw [hd_int h2]
  refine ⟨enc z, ?_, rfl⟩
  show (L2.atI (x.map enc) y).bind okA = _
  rw [atI_map, show L2.atI x y = some z from h, Option.map_some, Option.bind_some, okA_enc]
theorem o_ixC : O2 .ix .f (fun (l : Scr) (i : Int) => at' l.l i) := fun x y z d1 d2 h h1 h2 => by
  rw [hd_scr h1, hd_int h2]
  refine ⟨enc z, ?_, rfl⟩
  show (L2.atI x.l y).map D.int = _
  rw [show L2.atI x.l y = some z from h]
  rfl
theorem o_lenC : O1 .len .f (fun l : Scr => some (l.l.length : Int)) := fun x z d1 h h1 => by
  cases h
  rw [hd_scr h1]
  exact ⟨_, rfl, rfl⟩
theorem Nm.s_len (x : Nm) : x.s.length = x.l.length := by simp [Nm.s, PySem.Str.length]
def lenS (x : Nm) : Option Int := if x.l.length ≤ lim then some (x.l.length : Int) else none
theorem o_lenS : O1 .len .f lenS := fun x z d1 h h1 => by
  rw [hd_nm h1]
  obtain ⟨c, rfl⟩ := if_some h
  refine ⟨.int x.l.length, ?_, rfl⟩
  simp only [Pr.fn, fn1, lenD, Nm.s_len, c, if_true, Option.map_some, enc]
theorem o_listL [Cod α] : O1 .list .o (fun l : List α => some l) := fun x z d1 h h1 => by
  cases h
  obtain ⟨o, rfl⟩ := hd_l h1
  refine ⟨_, ?_, rfl⟩
  simp only [Pr.fn, fn1, listD]
  rw [if_pos (allFs_map Cod.fz x)]
  rfl
def addL (x y : List α) : Option (List α) := if x.length + y.length ≤ lim then some (x ++ y) else none
theorem o_addL [Cod α] : O2 .add .o (addL : List α → List α → Option (List α)) := fun x y z d1 d2 h h1 h2 => by
  obtain ⟨o, rfl⟩ := hd_l h1
  obtain ⟨o', rfl⟩ := hd_l h2
  obtain ⟨c, rfl⟩ := if_some h
  refine ⟨.lst true ((x ++ y).map enc), ?_, rfl⟩
  simp only [Pr.fn, fn2, addD, allFs_map Cod.fz, List.length_map, c, decide_true, Bool.and_self, if_true, List.map_append]
def lrng (n : Int) : Option (List Int) := if -1000000 ≤ n ∧ n ≤ lim then some ((List.range n.toNat).map fun i : Nat => (i : Int)) else none
class Nn (α : Type) [Cod α] : Prop where
  nn : ∀ a : α, isNon (enc a) = false
instance : Nn Int := ⟨fun _ => rfl⟩
instance : Nn Bool := ⟨fun _ => rfl⟩
instance : Nn Nm := ⟨fun _ => rfl⟩
instance : Nn Rf := ⟨fun _ => rfl⟩
instance [Cod α] : Nn (List α) := ⟨fun _ => rfl⟩
instance [Cod α] : Nn (Tu α) := ⟨fun _ => rfl⟩
instance [Cod α] [Cod β] : Nn (α × β) := ⟨fun _ => rfl⟩
instance [Cod α] [Cod β] [Cod γ] : Nn (Tr α β γ) := ⟨fun _ => rfl⟩
instance : Nn (Dct κ ν) := ⟨fun _ => rfl⟩
class Kdc (α : Type) [Cod α] where
  kd : String
  ok : ∀ (k : Kd) (a : α) (d : D), hd k (enc a) d → kindD d = some kd
instance : Kdc Int := ⟨"int", fun _ _ _ h => by rw [hd_int h]; rfl⟩
instance : Kdc Bool := ⟨"bool", fun _ _ _ h => by rw [hd_bl h]; rfl⟩
instance : Kdc Nm := ⟨"str", fun _ _ _ h => by rw [hd_nm h]; rfl⟩
instance [Cod α] : Kdc (List α) := ⟨"list", fun _ _ _ h => by obtain ⟨o, rfl⟩ := hd_l h; rfl⟩
instance [Cod α] : Kdc (Tu α) := ⟨"tuple", fun _ _ _ h => by rw [hd_tu h]; rfl⟩
instance [Cod α] [Cod β] : Kdc (α × β) := ⟨"tuple", fun _ _ _ h => by rw [hd_p h]; rfl⟩
instance [Cod α] [Cod β] [Cod γ] : Kdc (Tr α β γ) := ⟨"tuple", fun _ _ _ h => by rw [hd_tr h]; rfl⟩
def cat (x y : Nm) : Nm := ⟨x.l ++ y.l, by rw [List.all_append, x.ok, y.ok]; rfl⟩
def addS (x y : Nm) : Option Nm := if x.l.length + y.l.length ≤ lim then some (cat x y) else none
theorem cat_s (x y : Nm) : (cat x y).s = x.s ++ y.s := by
  show _ = PySem.Str.mk _
  simp [cat, Nm.s]
theorem o_addS : O2 .add .f addS := fun x y z d1 d2 h h1 h2 => by
  rw [hd_nm h1, hd_nm h2]
  obtain ⟨c, rfl⟩ := if_some h
  refine ⟨.str (cat x y).s, ?_, rfl⟩
  simp only [Pr.fn, fn2, addD, Nm.s_len, c, if_true, cat_s]
def sg1 (z : Nm) (c : {c // c ∈ z.l}) : Nm := ⟨[c.1], by have := List.all_eq_true.mp z.ok c.1 c.2; simpa using this⟩
def signs (z : Nm) : List Nm := z.l.attach.map (sg1 z)
def sgn (z : Nm) (i : Int) : Option Nm := if z.l.length ≤ lim then L2.atI (signs z) i else none
theorem sgn_map (z : Nm) : (signs z).map Nm.s = z.l.map fun c => ⟨#[c]⟩ := by
  unfold signs
  rw [List.map_map]
  conv => rhs; rw [← List.attach_map_subtype_val z.l, List.map_map]
  rfl
theorem o_ixS : O2 .ix .f sgn := fun x y z d1 d2 h h1 h2 => by
  rw [hd_nm h1, hd_int h2]
  unfold sgn at h
  split at h
  · rename_i c
    refine ⟨.str z.s, ?_, rfl⟩
    show ixD (.str x.s) (.int y) = _
    simp only [ixD, Nm.s_len, c, if_true]
    have e : (L2.atI (x.l.map fun c => (⟨#[c]⟩ : PySem.Str)) y) = some z.s := by
      rw [← sgn_map, atI_map, h]
      rfl
    rw [atI_map] at e
    have : x.s.cps.toList = x.l := by simp [Nm.s]
    rw [this]
    cases q : L2.atI x.l y with
    | none => rw [q] at e; cases e
    | some c =>
      rw [q] at e
      have := Option.some.inj e
      simp only [Option.map_some]
      rw [← this]
  · cases h
end
end PU
namespace PU
open VI
open L2 (Key)
open Cod (enc)
section
variable {T : Tab} {S S1 S2 S3 : SS} {α β γ δ α' β' γ' ω : Type}
def Kle (k k' : Kd) : Prop := ∀ x d, hd k x d → hd k' x d
theorem kr {k : Kd} : Kle k k := fun _ _ h => h
def isV : Ex → Bool
  | .var _ => true
  | _ => false
def isIo : Ex → Bool
  | .io _ => true
  | _ => false
theorem nv {e : Ex} (h : isV e = false) : ∀ i, e ≠ .var i := fun i z => by rw [z] at h; cases h
theorem nio {e : Ex} (h : isIo e = false) : ∀ i, e ≠ .io i := fun i z => by rw [z] at h; cases h
theorem EV.app {e : Ex} [Cod β] {c : Option α} {k : Kd} {g : α → β} {S' : α → SS} (h : EV T e S c k g S') {s : VS} (hs : St S s) {a : α} (ha : c = some a) : ∃ d s', ev T e s = some (.ok d s') ∧ hd k (enc (g a)) d ∧ St (S' a) s' := h s hs a ha
theorem q_var {i : Nat} [Cod β] {k : Kd} {v : β} (h : lk S.A i = .v k (enc v)) : EQ T (.var i) S k (some v) := fun s hs a ha => by
  cases ha
  obtain ⟨d, e, z⟩ := hs.get h
  exact ⟨d, by simp only [evq, e], z⟩
theorem q_int (i : Int) : EQ T (.con (.int i)) S .f (some i) := fun s hs a ha => by cases ha; exact ⟨_, rfl, rfl⟩
theorem q_bl (i : Bool) : EQ T (.con (.bl i)) S .f (some i) := fun s hs a ha => by cases ha; exact ⟨_, rfl, rfl⟩
theorem q_str (z : PySem.Str) (h) : EQ T (.con (.str z)) S .f (some (nm z h)) := fun s hs a ha => by cases ha; exact ⟨_, rfl, rfl⟩
theorem q_non [Cod β] : EQ T (.con .non) S .f (some (none : Option β)) := fun s hs a ha => by cases ha; exact ⟨_, rfl, rfl⟩
theorem q_unit : EQ T (.con .non) S .f (some ()) := fun s hs a ha => by cases ha; exact ⟨_, rfl, rfl⟩
theorem q_1 [Cod α] [Cod β] {p : Pr} {f : α → Option β} (o : O1 p .f f) {a : Ex} {k : Kd} {c : Option α} (h : EQ T a S k c) : EQ T (.pr p [a]) S .f (c.bind f) := fun s hs z hz => by
  obtain ⟨x, hx, e⟩ := bind_some hz
  obtain ⟨d, e1, e2⟩ := h s hs x hx
  obtain ⟨d', e3, e4⟩ := o x z d e (hd_a e2)
  exact ⟨d', by simp only [evq, evqs, e1, Option.bind_some, e3], e4⟩
theorem q_2 [Cod α] [Cod β] [Cod γ] {p : Pr} {f : α → β → Option γ} (o : O2 p .f f) {a b : Ex} {k k' : Kd} {c : Option α} {c' : Option β} (h : EQ T a S k c) (h' : EQ T b S k' c') : EQ T (.pr p [a, b]) S .f (c.bind fun x => c'.bind fun y => f x y) := fun s hs z hz => by
  obtain ⟨x, hx, e⟩ := bind_some hz
  obtain ⟨y, hy, e⟩ := bind_some e
  obtain ⟨d, e1, e2⟩ := h s hs x hx
  obtain ⟨d', e1', e2'⟩ := h' s hs y hy
  obtain ⟨d2, e3, e4⟩ := o x y z d d' e (hd_a e2) (hd_a e2')
  exact ⟨d2, by simp only [evq, evqs, e1, e1', Option.bind_some, e3], e4⟩
theorem v_of [Cod β] {e : Ex} {c : Option β} (he : ∀ s, ev T e s = qR (evq T s e) s) (h : EQ T e S .f c) : EC T e S c .f S := fun s hs a ha => by
  obtain ⟨d, e1, e2⟩ := h s hs a ha
  refine ⟨d, s, ?_, e2, hs⟩
  rw [he, e1, qR_some, show d = enc a from e2, okF_ok _ (Cod.fz a)]
theorem v_con [Cod β] {d : D} {c : Option β} (h : EQ T (.con d) S .f c) : EC T (.con d) S c .f S := v_of (fun s => ev_con d s) h
theorem v_pr [Cod β] {p : Pr} {as : List Ex} (hq : (p.quiet && isQs as) = true) {c : Option β} (h : EQ T (.pr p as) S .f c) : EC T (.pr p as) S c .f S := v_of (fun s => ev_prq p as s hq) h
theorem v_frv {i : Nat} [Cod β] {k : Kd} {v : β} (h : lk S.A i = .v k (enc v)) : EC T (.frv i) S (some v) .f (S.st i (.v .f (enc v))) := fun s hs a ha => by
  cases ha
  obtain ⟨d, e, z⟩ := hs.get h
  refine ⟨frz d, _, by rw [ev_frv, e, sR_some], hd_frzE z, hs.set ⟨_, rfl, hd_frzE z⟩⟩
theorem v_frf {i : Nat} [Cod β] {v : β} (h : lk S.A i = .v .f (enc v)) : EC T (.frv i) S (some v) .f S := fun s hs a ha => by
  cases ha
  obtain ⟨d, e, z⟩ := hs.get h
  have : d = enc v := z
  subst this
  refine ⟨enc v, s, ?_, rfl, hs⟩
  rw [ev_frv, e, sR_some, frz_id _ (Cod.fz v), set_same e]
theorem v_mov {i : Nat} [Cod β] {k : Kd} {v : β} (h : lk S.A i = .v k (enc v)) : EC T (.mov i) S (some v) k (S.st i .j) := fun s hs a ha => by
  cases ha
  obtain ⟨d, e, z⟩ := hs.get h
  exact ⟨d, _, by rw [ev_mov, e, sR_some], z, hs.set trivial⟩
theorem v_map [Cod β] [Cod γ] {e : Ex} {c : Option β} {k : Kd} {S1 : SS} {f : β → γ} (hf : ∀ x, (enc (f x) : D) = enc x) (h : EC T e S c k S1) : EC T e S (c.bind fun x => some (f x)) k S1 := fun s hs a ha => by
  obtain ⟨x, hx, e⟩ := bind_some ha
  cases e
  obtain ⟨d, s', e1, e2, e3⟩ := h s hs x hx
  exact ⟨d, s', e1, by show hd k (enc (f x)) d; rw [hf]; exact e2, e3⟩
theorem u_v [Cod α] [Cod β] {p : Pr} {k : Kd} {f : α → Option β} (o : O1 p k f) {i : Nat} (hq : (p.quiet && isQs [.var i]) = false) {k1 : Kd} {x : α} (h : lk S.A i = .v k1 (enc x)) : EC T (.pr p [.var i]) S (f x) k S := fun s hs z hz => by
  obtain ⟨d, e, w⟩ := hs.get h
  obtain ⟨d', e3, e4⟩ := o x z d hz (hd_a w)
  refine ⟨d', s, ?_, e4, hs⟩
  rw [ev_prg _ _ _ hq, evA_var, e, sR_some, evA_nil, b_ok, b_ok]
  simp only [AV.gets, AV.get, e, gR_some, e3, Option.map_some]
theorem b_vv [Cod α] [Cod β] [Cod γ] {p : Pr} {k : Kd} {f : α → β → Option γ} (o : O2 p k f) {i j : Nat} (hq : (p.quiet && isQs [.var i, .var j]) = false) {k1 k2 : Kd} {x : α} {y : β} (h : lk S.A i = .v k1 (enc x)) (h2 : lk S.A j = .v k2 (enc y)) : EC T (.pr p [.var i, .var j]) S (f x y) k S := fun s hs z hz => by
  obtain ⟨d, e, w⟩ := hs.get h
  obtain ⟨d2, e2, w2⟩ := hs.get h2
  obtain ⟨d', e3, e4⟩ := o x y z d d2 hz (hd_a w) (hd_a w2)
  refine ⟨d', s, ?_, e4, hs⟩
  rw [ev_prg _ _ _ hq, evA_var, e, sR_some, evA_var, e2, sR_some, evA_nil, b_ok, b_ok, b_ok]
  simp only [AV.gets, AV.get, e, e2, gR_some, e3, Option.map_some]
theorem b_vxE [Cod α] [Cod β] [Cod γ] {p : Pr} {k : Kd} {f : α → β → Option γ} (o : O2 p k f) {i : Nat} {b : Ex} (hq : (p.quiet && isQs [.var i, b]) = false) (nb : isV b = false) {k0 : Kd} {x0 : D} (h0 : lk S.A i = .v k0 x0) {c : Option δ} {g : δ → β} {S' : δ → SS} {k1 k2 : Kd} {x : δ → α} (hb : EV T b S c k2 g S') (h : ∀ y, lk (S' y).A i = .v k1 (enc (x y))) :
    EV T (.pr p [.var i, b]) S (c.bind fun y => (f (x y) (g y)).map fun z => (y, z)) k (·.2) (fun r => S' r.1) := fun s hs r hr => by
  obtain ⟨y, hy, ef⟩ := bind_some hr
  obtain ⟨z, hz, rfl⟩ := map_some ef
  obtain ⟨d0, e0, _⟩ := hs.get h0
  obtain ⟨d2, s1, e2, w2, t⟩ := hb s hs y hy
  obtain ⟨d, e, w⟩ := t.get (h y)
  obtain ⟨d', e3, e4⟩ := o (x y) (g y) z d (frz d2) hz (hd_a w) (.inl (hd_frzE w2))
  refine ⟨d', s1, ?_, e4, t⟩
  rw [ev_prg _ _ _ hq, evA_var, e0, sR_some, evA_cons _ _ _ (nv nb), e2, b_ok, evA_nil, b_ok, b_ok, b_ok]
  simp only [AV.gets, AV.get, e, gR_some, e3, Option.map_some]
theorem b_vx [Cod α] [Cod β] [Cod γ] {p : Pr} {k : Kd} {f : α → β → Option γ} (o : O2 p k f) {i : Nat} {b : Ex} (hq : (p.quiet && isQs [.var i, b]) = false) (nb : isV b = false) {k0 : Kd} {x0 : D} (h0 : lk S.A i = .v k0 x0) {c : Option β} {k1 k2 : Kd} {x : α} (hb : EC T b S c k2 S1) (h : lk S1.A i = .v k1 (enc x)) :
    EC T (.pr p [.var i, b]) S (c.bind fun y => f x y) k S1 := fun s hs z hz => by
  obtain ⟨y, hy, ef⟩ := bind_some hz
  obtain ⟨d0, e0, _⟩ := hs.get h0
  obtain ⟨d2, s1, e2, w2, t⟩ := hb s hs y hy
  obtain ⟨d, e, w⟩ := t.get h
  obtain ⟨d', e3, e4⟩ := o x y z d (frz d2) ef (hd_a w) (.inl (hd_frzE w2))
  refine ⟨d', s1, ?_, e4, t⟩
  rw [ev_prg _ _ _ hq, evA_var, e0, sR_some, evA_cons _ _ _ (nv nb), e2, b_ok, evA_nil, b_ok, b_ok, b_ok]
  simp only [AV.gets, AV.get, e, gR_some, e3, Option.map_some]
theorem b_xv [Cod α] [Cod β] [Cod γ] {p : Pr} {k : Kd} {f : α → β → Option γ} (o : O2 p k f) {j : Nat} {a : Ex} (hq : (p.quiet && isQs [a, .var j]) = false) (na : isV a = false) {c : Option α} {k1 k2 : Kd} {y : β} (ha : EC T a S c k1 S1) (h : lk S1.A j = .v k2 (enc y)) :
    EC T (.pr p [a, .var j]) S (c.bind fun x => f x y) k S1 := fun s hs z hz => by
  obtain ⟨x, hx, ef⟩ := bind_some hz
  obtain ⟨d1, s1, e1, w1, t⟩ := ha s hs x hx
  obtain ⟨d, e, w⟩ := t.get h
  obtain ⟨d', e3, e4⟩ := o x y z (frz d1) d ef (.inl (hd_frzE w1)) (hd_a w)
  refine ⟨d', s1, ?_, e4, t⟩
  rw [ev_prg _ _ _ hq, evA_cons _ _ _ (nv na), e1, b_ok, evA_var, e, sR_some, evA_nil, b_ok, b_ok, b_ok]
  simp only [AV.gets, AV.get, e, gR_some, e3, Option.map_some]
theorem b_xxE [Cod α] [Cod β] [Cod γ] {p : Pr} {k : Kd} {f : α → β → Option γ} (o : O2 p k f) {a b : Ex} (hq : (p.quiet && isQs [a, b]) = false) (na : isV a = false) (nb : isV b = false) {c : Option α'} {g : α' → α} {S' : α' → SS} {k1 k2 : Kd} {c2 : α' → Option β'} {g2 : α' → β' → β} {S2 : α' → β' → SS} (ha : EV T a S c k1 g S') (hb : ∀ x, EV T b (S' x) (c2 x) k2 (g2 x) (S2 x)) :
    EV T (.pr p [a, b]) S (c.bind fun x => (c2 x).bind fun y => (f (g x) (g2 x y)).map fun z => (x, y, z)) k (·.2.2) (fun r => S2 r.1 r.2.1) := fun s hs r hr => by
  obtain ⟨x, hx, ef⟩ := bind_some hr
  obtain ⟨y, hy, ef⟩ := bind_some ef
  obtain ⟨z, hz, rfl⟩ := map_some ef
  obtain ⟨d1, s1, e1, w1, t1⟩ := ha s hs x hx
  obtain ⟨d2, s2, e2, w2, t2⟩ := hb x s1 t1 y hy
  obtain ⟨d', e3, e4⟩ := o (g x) (g2 x y) z (frz d1) (frz d2) hz (.inl (hd_frzE w1)) (.inl (hd_frzE w2))
  refine ⟨d', s2, ?_, e4, t2⟩
  rw [ev_prg _ _ _ hq, evA_cons _ _ _ (nv na), e1, b_ok, evA_cons _ _ _ (nv nb), e2, b_ok, evA_nil, b_ok, b_ok, b_ok]
  simp only [AV.gets, AV.get, gR_some, e3, Option.map_some]
theorem b_xx [Cod α] [Cod β] [Cod γ] {p : Pr} {k : Kd} {f : α → β → Option γ} (o : O2 p k f) {a b : Ex} (hq : (p.quiet && isQs [a, b]) = false) (na : isV a = false) (nb : isV b = false) {c : Option α} {k1 k2 : Kd} {c2 : Option β} (ha : EC T a S c k1 S1) (hb : EC T b S1 c2 k2 S2) :
    EC T (.pr p [a, b]) S (c.bind fun x => c2.bind fun y => f x y) k S2 := fun s hs z hz => by
  obtain ⟨x, hx, ef⟩ := bind_some hz
  obtain ⟨y, hy, ef⟩ := bind_some ef
  obtain ⟨d1, s1, e1, w1, t1⟩ := ha s hs x hx
  obtain ⟨d2, s2, e2, w2, t2⟩ := hb s1 t1 y hy
  obtain ⟨d', e3, e4⟩ := o x y z (frz d1) (frz d2) ef (.inl (hd_frzE w1)) (.inl (hd_frzE w2))
  refine ⟨d', s2, ?_, e4, t2⟩
  rw [ev_prg _ _ _ hq, evA_cons _ _ _ (nv na), e1, b_ok, evA_cons _ _ _ (nv nb), e2, b_ok, evA_nil, b_ok, b_ok, b_ok]
  simp only [AV.gets, AV.get, gR_some, e3, Option.map_some]
def EVL (T : Tab) (es : List Ex) (S : SS) [Cod β] (c : Option (List β)) (S1 : SS) : Prop := ∀ s, St S s → ∀ l, c = some l → l.length = es.length ∧ ∃ s', evs T es s = some (.ok (l.map enc) s') ∧ St S1 s'
theorem l_nil [Cod β] : EVL T [] S (some ([] : List β)) S := fun s hs l hl => by cases hl; exact ⟨rfl, s, evs_nil s, hs⟩
theorem l_cons [Cod β] {a : Ex} {es : List Ex} {c : Option β} {k : Kd} {cs : Option (List β)} (ha : EC T a S c k S1) (hs : EVL T es S1 cs S2) : EVL T (a :: es) S (c.bind fun x => cs.bind fun l => some (x :: l)) S2 := fun s h0 l hl => by
  obtain ⟨x, hx, e⟩ := bind_some hl
  obtain ⟨y, hy, e⟩ := bind_some e
  cases e
  obtain ⟨d, s1, e1, w1, t1⟩ := ha s h0 x hx
  obtain ⟨hn, s2, e2, t2⟩ := hs s1 t1 y hy
  exact ⟨by simp [hn], s2, by rw [evs_cons, e1, b_ok, e2, b_ok, hd_frzE w1]; rfl, t2⟩
theorem v_lst [Cod β] {es : List Ex} {c : Option (List β)} (h : EVL T es S c S1) (hl : es.length ≤ lim) : EC T (.lst es) S c .o S1 := fun s hs l hc => by
  obtain ⟨hn, s1, e, t⟩ := h s hs l hc
  refine ⟨.lst true (l.map enc), s1, ?_, rfl, t⟩
  rw [ev_lst, e, b_ok, if_pos (by rw [List.length_map, hn]; exact hl)]
theorem n_not {a : Ex} {c : Option Bool} {k : Kd} (h : EC T a S c k S1) : EC T (.not a) S (c.bind fun b => some (!b)) .f S1 := fun s hs z hz => by
  obtain ⟨b, hb, e⟩ := bind_some hz
  cases e
  obtain ⟨d, s1, e1, w1, t⟩ := h s hs b hb
  refine ⟨.bl (!b), s1, ?_, rfl, t⟩
  rw [ev_not, e1, b_ok, hd_bl w1]
  rfl
theorem n_and {a b : Ex} {c c2 : Option Bool} {k k2 : Kd} (ha : EC T a S c k S1) (hb : EC T b S1 c2 k2 S2) (l1 : Le S1 S3) (l2 : Le S2 S3) : EC T (.and a b) S (c.bind fun x => if x then c2 else some false) .f S3 := fun s hs z hz => by
  obtain ⟨x, hx, e⟩ := bind_some hz
  obtain ⟨d, s1, e1, w1, t⟩ := ha s hs x hx
  rw [ev_and, e1, b_ok, hd_bl w1, tR_bl]
  cases x with
  | true =>
    obtain ⟨d2, s2, e2, w2, t2⟩ := hb s1 t z e
    exact ⟨d2, s2, e2, by rw [hd_bl w2]; rfl, l2.st t2⟩
  | false =>
    cases e
    exact ⟨.bl false, s1, rfl, rfl, l1.st t⟩
theorem v_leE [Cod β] {e : Ex} {c : Option α} {g : α → β} {S' : α → SS} {k : Kd} {S3 : ω → SS} {w : α → ω} (h : EV T e S c k g S') (l : ∀ x, Le (S' x) (S3 (w x))) : EV T e S (c.bind fun x => some (g x, w x)) k (·.1) (fun r => S3 r.2) := fun s hs z hz => by
  obtain ⟨x, hx, e⟩ := bind_some hz
  cases e
  obtain ⟨d, s1, e1, w1, t⟩ := h s hs x hx
  exact ⟨d, s1, e1, w1, (l x).st t⟩
end
end PU
namespace PU
open VI
open L2 (Key)
open Cod (enc)
section
variable {T : Tab} {S S1 S2 S3 : SS} {α β γ δ α' β' γ' ω ρ : Type}
theorem g_nil : EG T [] S (some ()) (fun _ => []) (fun _ => S) := fun s hs a ha => ⟨rfl, s, evG_nil s, hs⟩
theorem g_io {i : Nat} {k : Kd} {x : D} {es : List Ex} {c : Option α} {L : α → List AV} {S' : α → SS} (h : lk S.A i = .v k x) (hs : EG T es S c L S') : EG T (.io i :: es) S c (fun a => .sl i :: L a) S' := fun s h0 a ha => by
  obtain ⟨d, e, _⟩ := h0.get h
  obtain ⟨hi, s', e2, t⟩ := hs s h0 a ha
  exact ⟨by simp only [avIos, iosOf, hi], s', by rw [evG_io, e, sR_some, e2, b_ok], t⟩
theorem ios_c {e : Ex} {es : List Ex} (ni : isIo e = false) : iosOf (e :: es) = none :: iosOf es := by
  cases e <;> first | (cases ni; done) | rfl
theorem g_v [Cod β] {e : Ex} {es : List Ex} {ce : Option β} {k : Kd} {c : Option α} {L : α → List AV} (ni : isIo e = false) (he : EC T e S ce k S1) (hs : EG T es S1 c L fun _ => S2) : EG T (e :: es) S (ce.bind fun x => c.bind fun y => some (x, y)) (fun r => .val (enc r.1) :: L r.2) (fun _ => S2) := fun s h0 r hr => by
  obtain ⟨x, hx, ef⟩ := bind_some hr
  obtain ⟨y, hy, ef⟩ := bind_some ef
  cases ef
  obtain ⟨d, s1, e1, w1, t1⟩ := he s h0 x hx
  obtain ⟨hi, s2, e2, t2⟩ := hs s1 t1 y hy
  exact ⟨by rw [ios_c ni, ← hi]; rfl, s2, by rw [evG_cons _ _ _ (nio ni), e1, b_ok, e2, b_ok, hd_frzE w1]; rfl, t2⟩
theorem g_vE [Cod β] {e : Ex} {es : List Ex} {ce : Option γ} {g : γ → β} {Sx : γ → SS} {k : Kd} {c : γ → Option α} {L : γ → α → List AV} {S' : γ → α → SS} (ni : isIo e = false) (he : EV T e S ce k g Sx) (hs : ∀ x, EG T es (Sx x) (c x) (L x) (S' x)) : EG T (e :: es) S (ce.bind fun x => (c x).bind fun y => some (x, y)) (fun r => .val (enc (g r.1)) :: L r.1 r.2) (fun r => S' r.1 r.2) := fun s h0 r hr => by
  obtain ⟨x, hx, ef⟩ := bind_some hr
  obtain ⟨y, hy, ef⟩ := bind_some ef
  cases ef
  obtain ⟨d, s1, e1, w1, t1⟩ := he s h0 x hx
  obtain ⟨hi, s2, e2, t2⟩ := hs x s1 t1 y hy
  exact ⟨by rw [ios_c ni, ← hi]; rfl, s2, by rw [evG_cons _ _ _ (nio ni), e1, b_ok, e2, b_ok, hd_frzE w1], t2⟩
def empA : List (Option Nat) → List SA → List SA
  | [], A => A
  | none :: is, A => empA is A
  | some i :: is, A => empA is (stA A i .j)
def bckA : List (Option Nat) → List SA → List SA → List SA
  | none :: is, _ :: L, A => bckA is L A
  | some i :: is, x :: L, A => bckA is L (stA A i x)
  | _, _, A => A
def unV : SA → D
  | .v _ x => x
  | _ => .non
def isO : SA → Bool
  | .v .o _ => true
  | _ => false
def isVv : SA → Bool
  | .v _ _ => true
  | _ => false
def dsA : List AV → List SA → List D
  | [], _ => []
  | .val d :: as, A => d :: dsA as A
  | .sl i :: as, A => ow (unV (lk A i)) :: dsA as (stA A i .j)
def okS : List AV → List SA → Bool
  | [], _ => true
  | .val _ :: as, A => okS as A
  | .sl i :: as, A => isO (lk A i) && okS as (stA A i .j)
def okB : List (Option Nat) → List SA → Bool
  | [], _ => true
  | none :: is, _ :: L => okB is L
  | some _ :: is, x :: L => isVv x && okB is L
  | _, [] => false
theorem set_none_get {ρ : List (Option D)} {i : Nat} {d : Option D} (h : ρ[i]? = some d) : (ρ.set i none)[i]? = some none := by
  have := (List.getElem?_eq_some_iff.mp h).1
  simp [this]
def Emp : List AV → List (Option D) → Prop
  | [], _ => True
  | .val _ :: as, ρ => Emp as ρ
  | .sl i :: as, ρ => ρ[i]? = some none ∧ Emp as ρ
theorem isO_eq {a : SA} (h : isO a = true) : ∃ x, a = .v .o x := by
  cases a with
  | j => cases h
  | e => cases h
  | v k x => cases k <;> first | exact ⟨x, rfl⟩ | cases h
theorem isVv_eq {a : SA} (h : isVv a = true) : ∃ k x, a = .v k x := by
  cases a with
  | j => cases h
  | e => cases h
  | v k x => exact ⟨k, x, rfl⟩
theorem hnd_ok : ∀ {as : List AV} {A : List SA} {ρ : List (Option D)}, HL A ρ → okS as A = true → ∃ ρ1, hands as ρ = some (dsA as A, ρ1) ∧ HL (empA (avIos as) A) ρ1
  | [], A, ρ, h, e => ⟨ρ, rfl, h⟩
  | .val d :: as, A, ρ, h, e => by
    obtain ⟨ρ1, e1, h1⟩ := hnd_ok (as := as) h e
    exact ⟨ρ1, by simp only [hands, e1, Option.map_some, dsA], h1⟩
  | .sl i :: as, A, ρ, h, e => by
    simp only [okS, Bool.and_eq_true] at e
    obtain ⟨x, hx⟩ := isO_eq e.1
    obtain ⟨d, e1, w⟩ := h.get hx
    have : d = ow x := w
    subst this
    obtain ⟨ρ1, e2, h1⟩ := hnd_ok (h.set (i := i) (x := .j) (y := none) trivial) e.2
    exact ⟨ρ1, by simp only [hands, e1, e2, Option.map_some, dsA, hx, unV], h1⟩
theorem hands_emp : ∀ {as : List AV} {ρ : List (Option D)} {r : List D × List (Option D)}, hands as ρ = some r → Emp as r.2 ∧ r.2.length = ρ.length ∧ ∀ i : Nat, ρ[i]? = some none → r.2[i]? = some none
  | [], ρ, r, e => by cases e; exact ⟨trivial, rfl, fun _ h => h⟩
  | .val d :: as, ρ, r, e => by
    simp only [hands] at e
    obtain ⟨r', h, rfl⟩ := map_some e
    have q := hands_emp (as := as) (r := r') h
    exact ⟨q.1, q.2.1, q.2.2⟩
  | .sl i :: as, ρ, r, e => by
    simp only [hands] at e
    split at e
    · rename_i d hd
      obtain ⟨r', h, rfl⟩ := map_some e
      obtain ⟨h1, h2, h3⟩ := hands_emp h
      refine ⟨⟨h3 i (set_none_get hd), h1⟩, by rw [h2, List.length_set], fun j hj => h3 j ?_⟩
      by_cases e : i = j
      · subst e; exact set_none_get hd
      · rw [List.getElem?_set_ne e]; exact hj
    · cases e
def difS : List (Option Nat) → Bool
  | [] => true
  | none :: is => difS is
  | some i :: is => (is.all fun a => decide (a ≠ some i)) && difS is
theorem emp_put : ∀ {as : List AV} {ρ : List (Option D)} {i : Nat} {d : Option D}, Emp as ρ → ((avIos as).all fun a => decide (a ≠ some i)) = true → Emp as (ρ.set i d)
  | [], _, _, _, _, _ => trivial
  | .val _ :: as, ρ, i, d, h, e => emp_put (as := as) h (by simpa [avIos] using e)
  | .sl j :: as, ρ, i, d, h, e => by
    simp only [avIos, List.all_cons, Bool.and_eq_true, decide_eq_true_eq] at e
    exact ⟨by rw [List.getElem?_set_ne (fun z => e.1 (by rw [z]))]; exact h.1, emp_put h.2 e.2⟩
theorem bck_ok : ∀ {as : List AV} {L A : List SA} {ps ρ : List (Option D)}, HL A ρ → HL L ps → Emp as ρ → difS (avIos as) = true → okB (avIos as) L = true → ∃ ρ2, backs as ps ρ = some ρ2 ∧ HL (bckA (avIos as) L A) ρ2
  | [], L, A, ps, ρ, h, hL, _, _, e => ⟨ρ, by cases ps <;> rfl, by
    cases L <;> exact h⟩
  | .val d :: as, [], A, ps, ρ, h, hL, he, hdf, e => by simp [okB, avIos] at e
  | .val d :: as, l :: L, A, [], ρ, h, hL, he, hdf, e => hL.elim
  | .val d :: as, l :: L, A, p :: ps, ρ, h, hL, he, hdf, e => by
    obtain ⟨ρ2, e2, h2⟩ := bck_ok (as := as) h hL.2 he hdf (by simpa only [okB, avIos] using e)
    exact ⟨ρ2, by simpa only [backs] using e2, h2⟩
  | .sl i :: as, [], A, ps, ρ, h, hL, he, hdf, e => by simp [okB, avIos] at e
  | .sl i :: as, l :: L, A, [], ρ, h, hL, he, hdf, e => hL.elim
  | .sl i :: as, l :: L, A, p :: ps, ρ, h, hL, he, hdf, e => by
    simp only [okB, avIos, Bool.and_eq_true] at e
    obtain ⟨k, x, rfl⟩ := isVv_eq e.1
    obtain ⟨d, rfl, w⟩ := hL.1
    simp only [difS, avIos, Bool.and_eq_true] at hdf
    obtain ⟨ρ2, e2, h2⟩ := bck_ok (as := as) (h.set (i := i) (x := .v k x) (y := some d) ⟨d, rfl, w⟩) hL.2 (emp_put he.2 hdf.1) hdf.2 e.2
    exact ⟨ρ2, by simp only [backs, he.1]; exact e2, h2⟩
theorem nrs_nil : noRefs [] = true := rfl
theorem nrs_cons {d : D} {ds : List D} (h : noRef d = true) (hs : noRefs ds = true) : noRefs (d :: ds) = true := by simp only [noRefs, h, hs, Bool.and_self]
theorem nr_ow {d : D} (h : noRef d = true) : noRef (ow d) = true := by cases d <;> first | exact h | (simpa only [ow, noRef] using h) | (simpa only [ow, noRef, noRefs_ow0] using h)
theorem v_call [Cod β] {f : Nat} {as : List Ex} {c : Option α} {L : α → List AV} {S' : α → SS} {p : α → Option ρ} {k : Kd} {g : ρ → β} {Lr : ρ → List SA} (hg : EG T as S c L S') (hh : ∀ a, okS (L a) (S' a).A = true) (hdf : difS (iosOf as) = true) (hn : ∀ a, noRefs (dsA (L a) (S' a).A) = true)
    (hf : ∀ a, FS (T.call f) (dsA (L a) (S' a).A) [] (p a) k g Lr (fun _ => [])) (hb : ∀ r, okB (iosOf as) (Lr r) = true) :
    EV T (.call f as) S (c.bind fun a => (p a).bind fun r => some (a, r)) k (fun q => g q.2) (fun q => ⟨bckA (iosOf as) (Lr q.2) (empA (iosOf as) (S' q.1).A), (S' q.1).μ⟩) := fun s h0 q hq => by
  obtain ⟨a, ha, e⟩ := bind_some hq
  obtain ⟨r, hr, e⟩ := bind_some e
  cases e
  obtain ⟨hi, s1, e1, t1⟩ := hg s h0 a ha
  obtain ⟨d, ps, e2, w, hL⟩ := hf a r hr
  obtain ⟨ρ1, e3, h1⟩ := hnd_ok t1.1 (hh a)
  obtain ⟨he, _, _⟩ := hands_emp e3
  obtain ⟨ρ2, e4, h2⟩ := bck_ok h1 hL he (by rw [hi]; exact hdf) (by rw [hi]; exact hb r)
  rw [hi] at h2
  refine ⟨d, ⟨ρ2, s1.μ⟩, ?_, w, h2, t1.2⟩
  rw [ev_call, e1, b_ok]
  unfold callM
  simp only [e3, hn a, if_true, e2, e4, Option.map_some]
theorem v_callc [Cod β] {f : Nat} {as : List Ex} {c : Option α} {L : α → List AV} {p : α → Option ρ} {k : Kd} {g : ρ → β} {Lr : ρ → List SA} (hg : EG T as S c L fun _ => S1) (hh : ∀ a, okS (L a) S1.A = true) (hdf : difS (iosOf as) = true) (hn : ∀ a, noRefs (dsA (L a) S1.A) = true)
    (hf : ∀ a, FS (T.call f) (dsA (L a) S1.A) [] (p a) k g Lr (fun _ => [])) (hb : ∀ r, okB (iosOf as) (Lr r) = true) :
    EV T (.call f as) S (c.bind p) k g (fun q => ⟨bckA (iosOf as) (Lr q) (empA (iosOf as) S1.A), S1.μ⟩) := fun s h0 r hq => by
  obtain ⟨a, ha, hr⟩ := bind_some hq
  obtain ⟨hi, s1, e1, t1⟩ := hg s h0 a ha
  obtain ⟨d, ps, e2, w, hL⟩ := hf a r hr
  obtain ⟨ρ1, e3, h1⟩ := hnd_ok t1.1 (hh a)
  obtain ⟨he, _, _⟩ := hands_emp e3
  obtain ⟨ρ2, e4, h2⟩ := bck_ok h1 hL he (by rw [hi]; exact hdf) (by rw [hi]; exact hb r)
  rw [hi] at h2
  refine ⟨d, ⟨ρ2, s1.μ⟩, ?_, w, h2, t1.2⟩
  rw [ev_call, e1, b_ok]
  unfold callM
  simp only [e3, hn a, if_true, e2, e4, Option.map_some]
def ES (T : Tab) (sk : Sk) (src : List Ex) (S : SS) [Cod β] (c : Option α) (g : α → List β) (S' : α → SS) : Prop := ∀ s, St S s → ∀ a, c = some a → ∃ s', srcM T sk src s = some (.ok ((g a).map enc) s') ∧ St (S' a) s'
theorem evs_one {s s' : VS} {a : Ex} {d : D} (h : ev T a s = some (.ok d s')) : evs T [a] s = some (.ok [frz d] s') := by rw [evs_cons, h, b_ok, evs_nil, b_ok]
def rngG (n : Int) : Option (List Int) := if -1000000 ≤ n ∧ n ≤ lim then some ((List.range n.toNat).map fun i : Nat => (i : Int)) else none
theorem enc_rng (l : List Nat) (f : Nat → Int) : l.map (fun i => D.int (f i)) = (l.map f).map enc := by rw [List.map_map]; rfl
theorem s_rng1 {e : Ex} {c : Option Int} {k : Kd} (h : EC T e S c k S1) : ES T .rng1 [e] S (c.bind rngG) id (fun _ => S1) := fun s hs a ha => by
  obtain ⟨n, hn, e⟩ := bind_some ha
  obtain ⟨d, s1, e1, w, t⟩ := h s hs n hn
  refine ⟨s1, ?_, t⟩
  rw [src_app, evs_one e1, b_ok, hd_frzE w]
  obtain ⟨cc, rfl⟩ := if_some e
  show oR (if _ then _ else none) s1 = _
  simp only [id_eq]
  rw [if_pos cc, oR_some]
  rw [enc_rng _ (fun i : Nat => (i : Int))]
theorem s_rng1E {e : Ex} {c : Option α} {g : α → Int} {S' : α → SS} {k : Kd} (h : EV T e S c k g S') : ES T .rng1 [e] S (c.bind fun a => (rngG (g a)).bind fun l => some (a, l)) (·.2) (fun r => S' r.1) := fun s hs r hr => by
  obtain ⟨a, ha, e⟩ := bind_some hr
  obtain ⟨l, hl, e⟩ := bind_some e
  cases e
  obtain ⟨d, s1, e1, w, t⟩ := h s hs a ha
  refine ⟨s1, ?_, t⟩
  rw [src_app, evs_one e1, b_ok, hd_frzE w]
  obtain ⟨cc, rfl⟩ := if_some hl
  show oR (if _ then _ else none) s1 = _
  simp only [id_eq]
  rw [if_pos cc, oR_some]
  rw [enc_rng _ (fun i : Nat => (i : Int))]
def enumL (l : List β) : List (Int × β) := (List.range l.length).zipWith (fun (i : Nat) x => ((i : Int), x)) l
theorem s_enum [Cod β] {e : Ex} {c : Option α} {k : Kd} {g : α → List β} {S' : α → SS} (h : EV T e S c k g S') : ES T .enum [e] S c (fun a => enumL (g a)) S' := fun s hs a ha => by
  obtain ⟨d, s1, e1, w, t⟩ := h s hs a ha
  refine ⟨s1, ?_, t⟩
  rw [src_app, evs_one e1, b_ok, hd_frzE w]
  show oR (some _) s1 = _
  rw [oR_some]
  congr 2
  unfold enumL
  rw [List.length_map, List.map_zipWith, List.zipWith_map_right]
  rfl
def BT [Cod β] (tg : List Nat) (B : β → SS → SS) : Prop := ∀ x s S, St S s → ∃ ρ, bindT tg (enc x) s.ρ = some ρ ∧ St (B x S) ⟨ρ, s.μ⟩
theorem vf (x : D) : (SA.v .f x).H (some x) := ⟨_, rfl, rfl⟩
theorem bt1 [Cod β] (i : Nat) : BT [i] (fun (x : β) S => S.st i (.v .f (enc x))) := fun x s S h => ⟨_, rfl, h.set (vf _)⟩
theorem bt2 [Cod α] [Cod β] (i j : Nat) : BT [i, j] (fun (x : α × β) S => (S.st i (.v .f (enc x.1))).st j (.v .f (enc x.2))) := fun x s S h => ⟨_, rfl, (h.set (vf _)).set (vf _)⟩
def wp (S : SS) : List Nat → SS
  | [] => S
  | v :: vs => (wp S vs).st v .j
theorem wp_ok {s : VS} (h : St S s) : ∀ tg, St (wp S tg) ⟨wipeR s.ρ tg, s.μ⟩
  | [] => h
  | v :: vs => St.set (s := ⟨wipeR s.ρ vs, s.μ⟩) (wp_ok h vs) trivial
def mpO (f : β → Option γ) : List β → Option (List γ)
  | [] => some []
  | x :: xs => (f x).bind fun y => (mpO f xs).bind fun ys => some (y :: ys)
def lcO (fc : β → Option Bool) (f : β → Option γ) : List β → Option (List γ)
  | [] => some []
  | x :: xs => (fc x).bind fun b => if b then (f x).bind fun y => (lcO fc f xs).bind fun ys => some (y :: ys) else lcO fc f xs
def mpW (f : β → ω → Option (γ × ω)) : List β → ω → Option (List γ × ω)
  | [], w => some ([], w)
  | x :: xs, w => (f x w).bind fun r => (mpW f xs r.2).bind fun q => some (r.1 :: q.1, q.2)
def lcW (fc : β → ω → Option (Bool × ω)) (f : β → ω → Option (γ × ω)) : List β → ω → Option (List γ × ω)
  | [], w => some ([], w)
  | x :: xs, w => (fc x w).bind fun b => if b.1 then (f x b.2).bind fun r => (lcW fc f xs r.2).bind fun q => some (r.1 :: q.1, q.2) else lcW fc f xs b.2
def few (xs : List β) (c : Option γ) : Option γ := if xs.length ≤ lim then c else none
theorem few_some {xs : List β} {c : Option γ} {r : γ} (h : few xs c = some r) : xs.length ≤ lim ∧ c = some r := by
  unfold few at h
  split at h
  · exact ⟨by assumption, h⟩
  · cases h
theorem lcBody_eq (tg : List Nat) (mc : M Bool) (me : M D) (d : D) (s : VS) {ρ : List (Option D)} (h : bindT tg d (wipeR s.ρ tg) = some ρ) : lcBody tg mc me d s = bR (mc ⟨ρ, s.μ⟩) fun b s => if b then bR (me s) fun y s => some (.ok (some (frz y)) s) else some (.ok none s) := by
  unfold lcBody
  rw [h]
  show M.bnd _ _ _ = _
  rw [b_app]
  congr
  funext b s
  cases b <;> rfl
theorem lcW_loop [Cod β] [Cod γ] {tg : List Nat} {B : β → SS → SS} (hb : BT tg B) {cs : List Ex} {e : Ex} {I : ω → SS} {fc : β → ω → Option (Bool × ω)} {f : β → ω → Option (γ × ω)} {Sc : β → ω → Bool × ω → SS} {k : Kd} {Se : β → ω → γ × ω → SS}
    (hc : ∀ x w s, St (B x (wp (I w) tg)) s → ∀ r, fc x w = some r → ∃ s', evc T cs s = some (.ok r.1 s') ∧ St (Sc x w r) s')
    (he : ∀ x w r, fc x w = some r → r.1 = true → EV T e (Sc x w r) (f x r.2) k (·.1) (Se x r.2)) (l1 : ∀ x w r, fc x w = some r → r.1 = false → Le (Sc x w r) (I r.2)) (l2 : ∀ x w r, Le (Se x w r) (I r.2)) :
    ∀ (xs : List β) (w : ω) (s : VS) (acc : List D), St (I w) s → acc.length + xs.length ≤ lim → ∀ r, lcW fc f xs w = some r → ∃ s', loopC (lcBody tg (evc T cs) (ev T e)) (xs.map enc) acc s = some (.ok (acc ++ r.1.map enc) s') ∧ St (I r.2) s'
  | [], w, s, acc, h, _, r, hr => by cases hr; exact ⟨s, by simp [loopC, ret_app], h⟩
  | x :: xs, w, s, acc, h, hl, r, hr => by
    simp only [lcW] at hr
    obtain ⟨b, hbx, hr⟩ := bind_some hr
    obtain ⟨ρ, e1, t1⟩ := hb x ⟨wipeR s.ρ tg, s.μ⟩ _ (wp_ok h tg)
    obtain ⟨s2, e2, t2⟩ := hc x w _ t1 b hbx
    simp only [List.length_cons] at hl
    simp only [List.map_cons]
    unfold loopC
    rw [b_app, lcBody_eq tg _ _ _ s e1, e2, b_ok]
    cases hbb : b.1 with
    | true =>
      rw [hbb] at hr
      simp only [if_true] at hr ⊢
      obtain ⟨y, hy, hr⟩ := bind_some hr
      obtain ⟨q, hq, hr⟩ := bind_some hr
      cases hr
      obtain ⟨d, s3, e3, w3, t3⟩ := he x w b hbx hbb s2 t2 y hy
      rw [e3, b_ok, b_ok]
      have hlt : acc.length < lim := by omega
      simp only [hlt, if_true]
      obtain ⟨s4, e4, t4⟩ := lcW_loop hb hc he l1 l2 xs y.2 s3 (acc ++ [frz d]) ((l2 _ _ _).st t3) (by simp; omega) q hq
      refine ⟨s4, ?_, t4⟩
      rw [e4, hd_frzE w3]
      simp
    | false =>
      rw [hbb] at hr
      simp only [Bool.false_eq_true, if_false] at hr ⊢
      rw [b_ok]
      exact lcW_loop hb hc he l1 l2 xs b.2 s2 acc ((l1 x w b hbx hbb).st t2) (by omega) r hr
theorem lcW_true (f : β → ω → Option (γ × ω)) : ∀ (xs : List β) (w : ω), lcW (fun _ w => some (true, w)) f xs w = mpW f xs w
  | [], w => rfl
  | x :: xs, w => by
    simp only [lcW, mpW, Option.bind_some, if_true]
    congr
    funext r
    rw [lcW_true f xs]
theorem v_mpW [Cod β] [Cod γ] {tg : List Nat} {sk : Sk} {src : List Ex} {e : Ex} {c : Option α} {g : α → List β} {S' : α → SS} {B : β → SS → SS} {f : β → ω → Option (γ × ω)} {k : Kd} {Se : β → ω → γ × ω → SS} {I : ω → SS} {w0 : α → ω} (hs : ES T sk src S c g S') (hb : BT tg B) (l0 : ∀ a, Le (wp (S' a) tg) (I (w0 a)))
    (he : ∀ x w, EV T e (B x (wp (I w) tg)) (f x w) k (·.1) (Se x w)) (l2 : ∀ x w r, Le (Se x w r) (I r.2)) :
    EV T (.lc tg sk src [] e) S (c.bind fun a => few (g a) (mpW f (g a) (w0 a))) .o (·.1) (fun r => wp (I r.2) tg) := fun s h0 r hr => by
  obtain ⟨a, ha, hr⟩ := bind_some hr
  obtain ⟨hl, hr⟩ := few_some hr
  obtain ⟨s1, e1, t1⟩ := hs s h0 a ha
  rw [← lcW_true] at hr
  obtain ⟨s2, e2, t2⟩ := lcW_loop (T := T) (cs := []) (Sc := fun x w r => B x (wp (I r.2) tg)) hb (fun x w s hs r hr => by
    cases hr
    exact ⟨s, evc_nil s, hs⟩) (fun x w r _ _ => he x r.2) (fun x w r h1 h2 => by cases h1; cases h2) l2 (g a) (w0 a) _ [] ((l0 a).st (wp_ok t1 tg)) (by simpa using hl) r hr
  refine ⟨_, _, by rw [ev_lc, e1, b_ok, lcM_ok e2], ?_, wp_ok t2 tg⟩
  rfl
theorem lcW_lcO (fc : β → Option Bool) (f : β → Option γ) : ∀ (xs : List β), lcW (fun x (_ : Unit) => (fc x).bind fun b => some (b, ())) (fun x _ => (f x).bind fun y => some (y, ())) xs () = (lcO fc f xs).bind fun l => some (l, ())
  | [] => rfl
  | x :: xs => by
    have ih := lcW_lcO fc f xs
    simp only [lcW, lcO]
    cases fc x with
    | none => rfl
    | some b =>
      simp only [Option.bind_some]
      cases b with
      | false => simpa using ih
      | true =>
        simp only [if_true]
        cases f x with
        | none => rfl
        | some y =>
          simp only [Option.bind_some, ih]
          cases lcO fc f xs <;> rfl
theorem lcO_true (f : β → Option γ) : ∀ (xs : List β), lcO (fun _ => some true) f xs = mpO f xs
  | [] => rfl
  | x :: xs => by simp only [lcO, mpO, Option.bind_some, if_true, lcO_true f xs]
theorem v_mpO [Cod β] [Cod γ] {tg : List Nat} {sk : Sk} {src : List Ex} {e : Ex} {c : Option α} {g : α → List β} {S' : α → SS} {B : β → SS → SS} {f : β → Option γ} {k : Kd} {Se : β → SS} {I : α → SS} (hs : ES T sk src S c g S') (hb : BT tg B) (l0 : ∀ a, Le (wp (S' a) tg) (I a))
    (he : ∀ (a : α) (x : β), EC T e (B x (wp (I a) tg)) (f x) k (Se x)) (l2 : ∀ (a : α) (x : β), Le (Se x) (I a)) :
    EV T (.lc tg sk src [] e) S (c.bind fun a => few (g a) ((mpO f (g a)).bind fun l => some (a, l))) .o (·.2) (fun r => wp (I r.1) tg) := fun s h0 r hr => by
  obtain ⟨a, ha, hr⟩ := bind_some hr
  obtain ⟨hl, hr⟩ := few_some hr
  obtain ⟨l, hrl, hq⟩ := bind_some hr
  cases hq
  obtain ⟨s1, e1, t1⟩ := hs s h0 a ha
  have hr2 := lcW_lcO (fun _ => some true) f (g a)
  rw [lcO_true, hrl] at hr2
  obtain ⟨s2, e2, t2⟩ := lcW_loop (T := T) (cs := []) (I := fun _ : Unit => I a) (Sc := fun x _ _ => B x (wp (I a) tg)) (Se := fun x _ _ => Se x) (k := k) hb (fun x w s hs r hr => by
    cases hr
    exact ⟨s, evc_nil s, hs⟩) (fun x w r _ _ s hs y hy => by
      obtain ⟨z, hz, hy⟩ := bind_some hy
      cases hy
      exact he a x s hs z hz) (fun x w r h1 h2 => by cases h1; cases h2) (fun x w r => l2 a x) (g a) () _ [] ((l0 a).st (wp_ok t1 tg)) (by simpa using hl) (l, ()) hr2
  refine ⟨_, _, by rw [ev_lc, e1, b_ok, lcM_ok e2], ?_, wp_ok t2 tg⟩
  rfl
theorem v_lcc [Cod γ] {e : Ex} {c : Option (List β)} {cf : List β → Option (List γ)} {k : Kd} {I : SS} (h : EV T e S (c.bind fun a => few a ((cf a).bind fun l => some (a, l))) k (·.2) (fun _ => I)) : EC T e S (c.bind fun a => few a (cf a)) k I := fun s h0 l hr => by
  obtain ⟨a, ha, hr⟩ := bind_some hr
  obtain ⟨hl, hr⟩ := few_some hr
  obtain ⟨d, s', e1, w, t⟩ := h s h0 (a, l) (by rw [ha]; simp only [Option.bind_some, few, hl, if_true, hr])
  exact ⟨d, s', e1, w, t⟩
end
end PU
namespace PU
open VI
open L2 (Key)
open Cod (enc)
section
variable {T : Tab} {Pn : List Nat} {S S1 S2 S3 : SS} {α β γ δ α' β' γ' ω ω' ρ : Type}
theorem ow_l [Cod α] (l : List α) : ow (enc l) = .lst true (l.map enc) := rfl
theorem kind_l (m : Mp) (o : Bool) (ds : List D) (h : m ≠ .setd) (h2 : m ≠ .setN) : m.kind (.lst o ds) = true := by cases m <;> first | rfl | exact absurd rfl h | exact absurd rfl h2
theorem v_mt1c [Cod α] [Cod β] [Cod γ] {m : Mp} {i : Nat} {k0 : Kd} {x0 : γ} {a : Ex} {c : Option α} {k : Kd} {x : γ} {u : α → Option (β × γ)} (h0 : lk S.A i = .v k0 (enc x0)) (hk : ∀ d, hd k0 (enc x0) d → m.kind d = true) (ha : EC T a S c k S1) (h : lk S1.A i = .v .o (enc x)) (hm : ∀ y r, u y = some r → m.fn (ow (enc x)) [enc y] = some (ow (enc r.2), enc r.1)) :
    EV T (.mt m (.var i) [a]) S (c.bind u) .f (·.1) (fun q => S1.st i (.v .o (enc q.2))) := fun s hs r hq => by
  obtain ⟨y, hy, hr⟩ := bind_some hq
  obtain ⟨d0, e0, w0⟩ := hs.get h0
  obtain ⟨d1, s1, e1, w1, t1⟩ := ha s hs y hy
  obtain ⟨d, e, w⟩ := t1.get h
  have : d = ow (enc x) := w
  subst this
  refine ⟨enc r.1, _, ?_, rfl, t1.set (x := .v .o (enc r.2)) ⟨_, rfl, rfl⟩⟩
  rw [ev_mt, e0, sR_some, if_pos (hk _ w0), evs_one e1, b_ok, e, sR_some, hd_frzE w1]
  show mR i s1 (m.fn _ [enc (id y)]) = _
  rw [show id y = y from rfl, hm y r hr]
  rfl
theorem v_mt2c [Cod α] [Cod α'] [Cod β] [Cod γ] {m : Mp} {i : Nat} {k0 : Kd} {x0 : γ} {a b : Ex} {c : Option α} {c2 : Option α'} {k k2 : Kd} {x : γ} {u : α → α' → Option (β × γ)} (h0 : lk S.A i = .v k0 (enc x0)) (hk : ∀ d, hd k0 (enc x0) d → m.kind d = true) (ha : EC T a S c k S1) (hb : EC T b S1 c2 k2 S2) (h : lk S2.A i = .v .o (enc x)) (hm : ∀ y z r, u y z = some r → m.fn (ow (enc x)) [enc y, enc z] = some (ow (enc r.2), enc r.1)) :
    EV T (.mt m (.var i) [a, b]) S (c.bind fun y => c2.bind fun z => u y z) .f (·.1) (fun q => S2.st i (.v .o (enc q.2))) := fun s hs r hq => by
  obtain ⟨y, hy, hq⟩ := bind_some hq
  obtain ⟨z, hz, hr⟩ := bind_some hq
  obtain ⟨d0, e0, w0⟩ := hs.get h0
  obtain ⟨d1, s1, e1, w1, t1⟩ := ha s hs y hy
  obtain ⟨d2, s2, e2, w2, t2⟩ := hb s1 t1 z hz
  obtain ⟨d, e, w⟩ := t2.get h
  have : d = ow (enc x) := w
  subst this
  refine ⟨enc r.1, _, ?_, rfl, t2.set (x := .v .o (enc r.2)) ⟨_, rfl, rfl⟩⟩
  rw [ev_mt, e0, sR_some, if_pos (hk _ w0), evs_cons, e1, b_ok, evs_one e2, b_ok, b_ok, e, sR_some, hd_frzE w1, hd_frzE w2]
  show mR i s2 (m.fn _ [enc (id y), enc (id z)]) = _
  rw [show id y = y from rfl, show id z = z from rfl, hm y z r hr]
  rfl
theorem mk_l [Cod α] {m : Mp} {k : Kd} {x : List α} (h : m ≠ .setd) (h2 : m ≠ .setN) : ∀ d, hd k (enc x) d → m.kind d = true := fun d w => by
  obtain ⟨o, rfl⟩ := hd_l w
  exact kind_l m o _ h h2
def app (l : List α) (x : α) : Option (Unit × List α) := if l.length < lim then some ((), l ++ [x]) else none
theorem app_m [Cod α] (l : List α) (x : α) (r) (h : app l x = some r) : Mp.fn .app (ow (enc l)) [enc x] = some (ow (enc r.2), enc r.1) := by
  obtain ⟨c, rfl⟩ := if_some h
  show (if (l.map enc).length < lim then _ else none) = _
  rw [List.length_map, if_pos c]
  simp only [ow_l, List.map_append, List.map_cons, List.map_nil]
  rfl
def popl (l : List α) : Option (α × List α) := (l[l.length - 1]?).bind fun x => some (x, l.dropLast)
def popa (l : List α) (i : Int) : Option (α × List α) := if -(2 ^ 63) ≤ i ∧ i < 2 ^ 63 then (L2.ixN l.length i).bind fun k => (l[k]?).bind fun x => some (x, l.eraseIdx k) else none
def insr (l : List α) (i : Int) (x : α) : Option (Unit × List α) := if l.length < lim ∧ 0 ≤ i ∧ i < 2 ^ 63 then some ((), l.take i.toNat ++ [x] ++ l.drop i.toNat) else none
def setl (x : α) (i : Int) (l : List α) : Option (Unit × List α) := (L2.ixN l.length i).bind fun j => some ((), l.set j x)
theorem setl_m [Cod α] (l : List α) (x : α) (i : Int) (r) (h : setl x i l = some r) : Mp.fn .setl (ow (enc l)) [enc x, enc i] = some (ow (enc r.2), enc r.1) := by
  obtain ⟨j, hj, e⟩ := bind_some h
  cases e
  show (L2.ixN (l.map enc).length i).map _ = _
  rw [List.length_map, hj]
  simp only [ow_l, Option.map_some, List.map_set]
  rfl
def setd {κ ν : Type} [DecidableEq κ] (x : ν) (k : κ) (d : Dct κ ν) : Option (Unit × Dct κ ν) := if d.l.length < lim then some ((), d.set k x) else none
def cutL (l : List α) (lo hi : Option Int) : List α := (l.drop (HT.sIx l.length 0 lo)).take (HT.sIx l.length l.length hi - HT.sIx l.length 0 lo)
theorem slD_l [Cod α] {k : Kd} {l : List α} {d : D} (h : hd k (enc l) d) (lo hi : Option Int) : slD d lo hi = some (ow (enc (cutL l lo hi))) := by
  obtain ⟨o, rfl⟩ := hd_l h
  simp only [slD, allFs_map Cod.fz, if_true, ow_l, cutD, cutL, List.length_map, List.map_take, List.map_drop]
def EP (T : Tab) (es : List Ex) (S : SS) (c : Option (Option Int)) (S1 : SS) : Prop := ∀ s, St S s → ∀ a, c = some a → ∃ s', evP T es s = some (.ok a s') ∧ St S1 s'
theorem p_0 : EP T [] S (some none) S := fun s hs a ha => by cases ha; exact ⟨s, by simp only [evP]; rfl, hs⟩
theorem p_1 {e : Ex} {c : Option Int} {k : Kd} (h : EC T e S c k S1) : EP T [e] S (c.bind fun i => some (some i)) S1 := fun s hs a ha => by
  obtain ⟨i, hi, e'⟩ := bind_some ha
  cases e'
  obtain ⟨d, s1, e1, w, t⟩ := h s hs i hi
  refine ⟨s1, ?_, t⟩
  simp only [evP, b_app, e1, b_ok, hd_int w]
  rfl
theorem ev_slcv {i : Nat} {lo hi : List Ex} {s : VS} : ev T (.slc (.var i) lo hi) s = sR s.ρ[i]? fun _ => bR (evP T lo s) fun l s => bR (evP T hi s) fun h s => ((AV.sl i).get s).bind fun d => (slD d l h).map fun d => .ok d s := by
  simp only [ev]
  show bR (slotM i s) _ = _
  rw [slot_app]
  unfold sR
  cases s.ρ[i]? with
  | none => rfl
  | some o => cases o with
    | none => rfl
    | some d =>
      simp only [b_ok]
      show bR (evP T lo s) _ = _
      congr
      funext l s
      show bR (evP T hi s) _ = _
      congr
      funext h s
      cases (AV.sl i).get s <;> rfl
theorem asc (m : M D) (f : D → AV) (F : AV → M α) (s : VS) : ((m.bnd fun d => M.ret (f d)).bnd F) s = bR (m s) fun d s => F (f d) s := by
  rw [b_app, b_app]
  cases m s with
  | none => rfl
  | some r => cases r <;> rfl
theorem ev_slce {a : Ex} {lo hi : List Ex} {s : VS} (na : isV a = false) : ev T (.slc a lo hi) s = bR (ev T a s) fun d s => bR (evP T lo s) fun l s => bR (evP T hi s) fun h s => (slD (frz d) l h).map fun d => .ok d s := by
  cases a <;> first | (cases na; done) | (rw [ev] <;> first | exact asc _ _ _ _ | exact fun _ h => nomatch h)
theorem v_slv [Cod α] {i : Nat} {lo hi : List Ex} {k0 k : Kd} {x0 : D} {c1 c2 : Option (Option Int)} {l : List α} (h0 : lk S.A i = .v k0 x0) (h1 : EP T lo S c1 S1) (h2 : EP T hi S1 c2 S2) (h : lk S2.A i = .v k (enc l)) : EC T (.slc (.var i) lo hi) S (c1.bind fun a => c2.bind fun b => some (cutL l a b)) .o S2 := fun s hs z hz => by
  obtain ⟨a, ha, e⟩ := bind_some hz
  obtain ⟨b, hb, e⟩ := bind_some e
  cases e
  obtain ⟨d0, e0, _⟩ := hs.get h0
  obtain ⟨s1, e1, t1⟩ := h1 s hs a ha
  obtain ⟨s2, e2, t2⟩ := h2 s1 t1 b hb
  obtain ⟨d, e, w⟩ := t2.get h
  refine ⟨_, s2, ?_, rfl, t2⟩
  rw [ev_slcv, e0, sR_some, e1, b_ok, e2, b_ok]
  simp only [AV.get, e, Option.bind_some, slD_l w, Option.map_some]
  rfl
theorem v_slx [Cod α] {e : Ex} {lo hi : List Ex} {k : Kd} {c : Option (List α)} {c1 c2 : Option (Option Int)} (na : isV e = false) (h0 : EC T e S c k S1) (h1 : EP T lo S1 c1 S2) (h2 : EP T hi S2 c2 S3) : EC T (.slc e lo hi) S (c.bind fun l => c1.bind fun a => c2.bind fun b => some (cutL l a b)) .o S3 := fun s hs z hz => by
  obtain ⟨l, hl, e'⟩ := bind_some hz
  obtain ⟨a, ha, e'⟩ := bind_some e'
  obtain ⟨b, hb, e'⟩ := bind_some e'
  cases e'
  obtain ⟨d0, s0, e0, w, t0⟩ := h0 s hs l hl
  obtain ⟨s1, e1, t1⟩ := h1 s0 t0 a ha
  obtain ⟨s2, e2, t2⟩ := h2 s1 t1 b hb
  refine ⟨_, s2, ?_, rfl, t2⟩
  rw [ev_slce na, e0, b_ok, e1, b_ok, e2, b_ok, hd_frzE w]
  show (slD (enc l) a b).map _ = _
  rw [slD_l (k := .f) (l := l) rfl]
  rfl
def QN (I : ω → SS) : ω → Fl → VS → Prop := fun w fl s => fl = .nx ∧ St (I w) s
inductive Fo (ω ρ : Type) where
  | nx (w : ω) | bk (w : ω) | rt (r : ρ)
def QL (I : ω → SS) (R : ρ → D → VS → Prop) : Fo ω ρ → Fl → VS → Prop
  | .nx w, fl, s => (fl = .nx ∨ fl = .ct) ∧ St (I w) s
  | .bk w, fl, s => fl = .bk ∧ St (I w) s
  | .rt r, fl, s => ∃ d, fl = .rt d ∧ R r d s
def QR (R : ρ → D → VS → Prop) : ρ → Fl → VS → Prop := fun r fl s => ∃ d, fl = .rt d ∧ R r d s
def RV [Cod β] (k : Kd) (g : ρ → β) (P : ρ → SS) : ρ → D → VS → Prop := fun r d s => hd k (enc (g r)) d ∧ St (P r) s
theorem xs_e {w : ω} {Q : ω → Fl → VS → Prop} (h : ∀ s, St S s → Q w .nx s) : XS T Pn [] S (some w) Q := fun s hs a ha => by
  cases ha
  exact ⟨.nx, s, xs_nil s, h s hs⟩
theorem en {I : ω → SS} {w : ω} (l : Le S (I w)) : ∀ s, St S s → QN I w .nx s := fun s h => ⟨rfl, l.st h⟩
theorem el {I : ω → SS} {R : ρ → D → VS → Prop} {w : ω} (l : Le S (I w)) : ∀ s, St S s → QL I R (.nx w) .nx s := fun s h => ⟨.inl rfl, l.st h⟩
theorem xs_n {c : Sm} {cs : List Sm} {c1 : Option α} {S' : α → SS} {c2 : α → Option β} {Q : β → Fl → VS → Prop} (h1 : X1 T Pn c S c1 S') (h2 : ∀ a, XS T Pn cs (S' a) (c2 a) Q) : XS T Pn (c :: cs) S (c1.bind c2) Q := fun s hs b hb => by
  obtain ⟨a, ha, e⟩ := bind_some hb
  obtain ⟨s1, e1, t1⟩ := h1 s hs a ha
  obtain ⟨fl, s2, e2, q⟩ := h2 a s1 t1 b e
  exact ⟨fl, s2, by rw [xs_step e1, e2], q⟩
theorem xs_w {c : Sm} {cs : List Sm} {c1 : Option α} {S' : α → SS} {c2 : α → Option β} {Q : β → Fl → VS → Prop} (h1 : X1 T Pn c S c1 S') (I : α → SS) (l : ∀ a, Le (S' a) (I a)) (h2 : ∀ a, XS T Pn cs (I a) (c2 a) Q) : XS T Pn (c :: cs) S (c1.bind c2) Q := fun s hs b hb => by
  obtain ⟨a, ha, e⟩ := bind_some hb
  obtain ⟨s1, e1, t1⟩ := h1 s hs a ha
  obtain ⟨fl, s2, e2, q⟩ := h2 a s1 ((l a).st t1) b e
  exact ⟨fl, s2, by rw [xs_step e1, e2], q⟩
theorem xs_ret [Cod β] {e : Ex} {cs : List Sm} {c : Option α} {k : Kd} {g : α → β} {S' : α → SS} {F : α → ρ} {Q : ρ → Fl → VS → Prop} (h : EV T e S c k g S') (hq : ∀ a d s, hd k (enc (g a)) d → St (S' a) s → Q (F a) (.rt d) s) : XS T Pn (.ret e :: cs) S (c.bind fun a => some (F a)) Q := fun s hs r hr => by
  obtain ⟨a, ha, e'⟩ := bind_some hr
  cases e'
  obtain ⟨d, s1, e1, w, t⟩ := h s hs a ha
  exact ⟨.rt d, s1, by rw [xs_cons, x_ret, e1, b_ok]; rfl, hq a d s1 w t⟩
theorem rr [Cod β] {k k' : Kd} {g : ρ → β} {P : ρ → SS} {r : ρ} {x : β} {d : D} {s : VS} (hk : Kle k k') (hx : hd k (enc x) d) (hs : St S s) (e : g r = x) (l : Le S (P r)) : QR (RV k' g P) r (.rt d) s := ⟨d, rfl, by rw [e]; exact hk _ _ hx, l.st hs⟩
theorem rl [Cod β] {I : ω → SS} {k k' : Kd} {g : ρ → β} {P : ρ → SS} {r : ρ} {x : β} {d : D} {s : VS} (hk : Kle k k') (hx : hd k (enc x) d) (hs : St S s) (e : g r = x) (l : Le S (P r)) : QL I (RV k' g P) (.rt r) (.rt d) s := ⟨d, rfl, by rw [e]; exact hk _ _ hx, l.st hs⟩
theorem execs_app : ∀ (a b : List Sm) (s : VS), VI.execs T Pn (a ++ b) s = bR (VI.execs T Pn a s) (seqF (VI.execs T Pn b))
  | [], b, s => by rw [List.nil_append, xs_nil, b_ok, seq_nx]
  | c :: a, b, s => by
    rw [List.cons_append, xs_cons, xs_cons]
    cases h : VI.exec T Pn c s with
    | none => rfl
    | some r =>
      cases r with
      | ex x s => rfl
      | ok fl s1 =>
        rw [b_ok, b_ok]
        cases fl with
        | nx => rw [seq_nx, seq_nx]; exact execs_app a b s1
        | ct => rfl
        | bk => rfl
        | rt d => rfl
theorem x_if {e : Ex} {A B : List Sm} {cc : Option α} {k : Kd} {gb : α → Bool} {Sb : α → SS} {cA cB : α → Option ω} {I : ω → SS} (hc : EV T e S cc k gb Sb) (hA : ∀ b, XS T Pn A (Sb b) (cA b) (QN I)) (hB : ∀ b, XS T Pn B (Sb b) (cB b) (QN I)) : X1 T Pn (.ite e A B) S (cc.bind fun b => if gb b then cA b else cB b) I := fun s hs r hr => by
  obtain ⟨b, hb, hr⟩ := bind_some hr
  obtain ⟨d, s1, e1, w, t⟩ := hc s hs b hb
  rw [x_ite, e1, b_ok, hd_bl w, tR_bl]
  cases hg : gb b with
  | true =>
    rw [hg] at hr
    simp only [if_true] at hr ⊢
    obtain ⟨fl, s2, e2, rfl, q⟩ := hA b s1 t r hr
    exact ⟨s2, e2, q⟩
  | false =>
    rw [hg] at hr
    simp only [Bool.false_eq_true, if_false] at hr ⊢
    obtain ⟨fl, s2, e2, rfl, q⟩ := hB b s1 t r hr
    exact ⟨s2, e2, q⟩
theorem bndT_eq {tg : List Nat} {d : D} {m : M Fl} {s : VS} {ρ' : List (Option D)} (hf : free Pn tg = true) (h : bindT tg d s.ρ = some ρ') : bndT Pn tg d m s = m ⟨ρ', s.μ⟩ := by
  unfold bndT
  rw [if_pos hf, h]
theorem x_asg1 [Cod β] {i : Nat} {e : Ex} {c : Option α} {k : Kd} {g : α → β} {S' : α → SS} (hf : free Pn [i] = true) (h : EV T e S c k g S') : X1 T Pn (.asg [i] e) S c (fun a => (S' a).st i (.v k (enc (g a)))) := fun s hs a ha => by
  obtain ⟨d, s1, e1, w, t⟩ := h s hs a ha
  exact ⟨_, by rw [x_asg, e1, b_ok, bndT_eq hf rfl]; rfl, t.set ⟨d, rfl, w⟩⟩
theorem x_par2 [Cod β] [Cod γ] {i j : Nat} {a b : Ex} {c : Option α} {k k2 : Kd} {g : α → β} {S' : α → SS} {c2 : α → Option α'} {g2 : α → α' → γ} {Sb : α → α' → SS} (hi : free Pn [i] = true) (hj : free Pn [j] = true) (ha : EV T a S c k g S') (hb : ∀ x, EV T b (S' x) (c2 x) k2 (g2 x) (Sb x)) : X1 T Pn (.par2 i j a b) S (c.bind fun x => (c2 x).bind fun y => some (x, y)) (fun r => ((Sb r.1 r.2).st i (.v .f (enc (g r.1)))).st j (.v .f (enc (g2 r.1 r.2)))) := fun s hs r hr => by
  obtain ⟨x, hx, hr⟩ := bind_some hr
  obtain ⟨y, hy, hr⟩ := bind_some hr
  cases hr
  obtain ⟨d1, s1, e1, w1, t1⟩ := ha s hs x hx
  obtain ⟨d2, s2, e2, w2, t2⟩ := hb x s1 t1 y hy
  refine ⟨⟨(s2.ρ.set i (some (frz d1))).set j (some (frz d2)), s2.μ⟩, ?_, ?_⟩
  · simp only [VI.exec, b_app]
    rw [evs_cons, e1, b_ok, evs_one e2, b_ok, b_ok]
    show bndT Pn [i] _ _ _ = _
    rw [bndT_eq hi rfl]
    rw [bndT_eq hj rfl]
    rfl
  · rw [hd_frzE w1, hd_frzE w2]
    exact (t2.set (vf _)).set (vf _)
theorem x_e [Cod β] {e : Ex} {c : Option α} {k : Kd} {g : α → β} {S' : α → SS} (h : EV T e S c k g S') : X1 T Pn (.ex e) S c S' := fun s hs a ha => by
  obtain ⟨d, s1, e1, w, t⟩ := h s hs a ha
  exact ⟨s1, by rw [x_ex, e1, b_ok]; rfl, t⟩
theorem x_setS [Cod β] {m : Mp} {i : Nat} {k e : Ex} {c : Option α} {kk : Kd} {g : α → β} {S' : α → SS} (h : EV T (.mt m (.var i) [e, k]) S c kk g S') : X1 T Pn (.setS m i k e) S c S' := fun s hs a ha => by
  obtain ⟨d, s1, e1, w, t⟩ := h s hs a ha
  exact ⟨s1, by rw [x_set, e1, b_ok]; rfl, t⟩
def loopO (f : β → ω → Option (Fo ω ρ)) : List β → ω → Option (Fo ω ρ)
  | [], w => some (.nx w)
  | x :: xs, w => (f x w).bind fun r => match r with
    | .nx w => loopO f xs w
    | .bk w => some (.nx w)
    | .rt r => some (.rt r)
def XM (T : Tab) (Pn : List Nat) (st : Sm) (S : SS) (c : Option (Fo ω ρ)) (I : ω → SS) (R : ρ → D → VS → Prop) : Prop :=
  ∀ s, St S s → ∀ a, c = some a → ∃ fl s', VI.exec T Pn st s = some (.ok fl s') ∧ match a with
    | .nx w => fl = .nx ∧ St (I w) s'
    | .bk _ => False
    | .rt r => ∃ d, fl = .rt d ∧ R r d s'
theorem forM_loop [Cod β] {tg : List Nat} {b : List Sm} {B : β → SS → SS} (hb : BT tg B) (hf : free Pn tg = true) {I : ω → SS} {R : ρ → D → VS → Prop} {f : β → ω → Option (Fo ω ρ)} (h : ∀ x w, XS T Pn b (B x (I w)) (f x w) (QL I R)) : ∀ (xs : List β) (w : ω) (s : VS), St (I w) s → ∀ r, loopO f xs w = some r → ∃ fl s', forM Pn tg (VI.execs T Pn b) (xs.map enc) s = some (.ok fl s') ∧ match r with
    | .nx w => fl = .nx ∧ St (I w) s'
    | .bk _ => False
    | .rt r => ∃ d, fl = .rt d ∧ R r d s'
  | [], w, s, hs, r, hr => by cases hr; exact ⟨.nx, s, rfl, rfl, hs⟩
  | x :: xs, w, s, hs, r, hr => by
    obtain ⟨o, h1, hr⟩ := bind_some hr
    obtain ⟨ρ', e1, t1⟩ := hb x s _ hs
    obtain ⟨fl, s2, e2, q⟩ := h x w _ t1 o h1
    have key : forM Pn tg (VI.execs T Pn b) ((x :: xs).map enc) s = bR (some (.ok fl s2)) (loopF (forM Pn tg (VI.execs T Pn b) (xs.map enc))) := by
      show bndT Pn tg (enc x) _ s = _
      rw [bndT_eq hf e1, b_app, e2]
    rw [key, b_ok]
    cases o with
    | nx w1 =>
      obtain ⟨hfl, t2⟩ := q
      obtain ⟨fl3, s3, e3, t3⟩ := forM_loop hb hf h xs w1 s2 t2 r hr
      refine ⟨fl3, s3, ?_, t3⟩
      rcases hfl with rfl | rfl <;> exact e3
    | bk w1 =>
      obtain ⟨rfl, t2⟩ := q
      cases hr
      exact ⟨.nx, s2, rfl, rfl, t2⟩
    | rt r1 =>
      obtain ⟨d, rfl, t2⟩ := q
      cases hr
      exact ⟨.rt d, s2, rfl, d, rfl, t2⟩
theorem x_forM [Cod β] {tg : List Nat} {sk : Sk} {src : List Ex} {b : List Sm} {c : Option α} {g : α → List β} {S' : α → SS} {B : β → SS → SS} {f : β → ω → Option (Fo ω ρ)} {R : ρ → D → VS → Prop} {I : ω → SS} {w0 : α → ω} (hf : free Pn tg = true) (hs : ES T sk src S c g S') (hb : BT tg B) (l0 : ∀ a, Le (S' a) (I (w0 a))) (h : ∀ x w, XS T Pn b (B x (I w)) (f x w) (QL I R)) : XM T Pn (.for tg sk src b) S (c.bind fun a => loopO f (g a) (w0 a)) I R := fun s h0 r hr => by
  obtain ⟨a, ha, hr⟩ := bind_some hr
  obtain ⟨s1, e1, t1⟩ := hs s h0 a ha
  obtain ⟨fl, s2, e2, t2⟩ := forM_loop hb hf h (g a) (w0 a) s1 ((l0 a).st t1) r hr
  exact ⟨fl, s2, by rw [x_for, e1, b_ok]; exact exOf_ok e2, t2⟩
def foB (f : ω → Option β) (g : ρ → β) : Fo ω ρ → Option β
  | .nx w => f w
  | .bk _ => none
  | .rt r => some (g r)
theorem hr_f {R : ρ → D → VS → Prop} : ∀ r d s, R r d s → QR R r (.rt d) s := fun _ d _ h => ⟨d, rfl, h⟩
theorem hr_l {I : ω → SS} {R : ρ → D → VS → Prop} : ∀ r d s, R r d s → QL I R (.rt r) (.rt d) s := fun _ d _ h => ⟨d, rfl, h⟩
theorem xs_m {st : Sm} {cs : List Sm} {c : Option (Fo ω ρ)} {I : ω → SS} {R : ρ → D → VS → Prop} {c2 : ω → Option β} {F : ρ → β} {Q : β → Fl → VS → Prop} (h1 : XM T Pn st S c I R) (h2 : ∀ w, XS T Pn cs (I w) (c2 w) Q) (hr : ∀ r d s, R r d s → Q (F r) (.rt d) s) : XS T Pn (st :: cs) S (c.bind (foB c2 F)) Q := fun s hs b hb => by
  obtain ⟨o, ho, hb⟩ := bind_some hb
  obtain ⟨fl, s1, e1, q⟩ := h1 s hs o ho
  rw [xs_cons, e1, b_ok]
  cases o with
  | nx w =>
    obtain ⟨rfl, t⟩ := q
    exact h2 w s1 t b hb
  | bk w => exact q.elim
  | rt r =>
    obtain ⟨d, rfl, t⟩ := q
    cases hb
    exact ⟨.rt d, s1, rfl, hr r d s1 t⟩
def ou (n : Nat) (Pn : List Nat) (A : List SA) : List SA := (List.range n).map fun i => if i ∈ Pn then lk A i else .e
theorem HL_map {f : Nat → SA} {g : Nat → Option D} : ∀ l : List Nat, (∀ i ∈ l, (f i).H (g i)) → HL (l.map f) (l.map g)
  | [], _ => trivial
  | i :: l, h => ⟨h i List.mem_cons_self, HL_map l fun j hj => h j (List.mem_cons_of_mem _ hj)⟩
theorem HL.getE : ∀ {A : List SA} {ρ : List (Option D)} {i : Nat}, HL A ρ → lk A i = .e → (ρ[i]?).join = none
  | [], [], _, _, e => by simp [lk] at e
  | [], _ :: _, _, h, _ => h.elim
  | a :: A, [], _, h, _ => h.elim
  | a :: A, y :: ρ, 0, h, e => by
    simp only [lk] at e
    subst e
    have : y = none := h.1
    subst this
    rfl
  | a :: A, y :: ρ, i + 1, h, e => by
    simp only [lk] at e
    simpa using HL.getE h.2 e
theorem ou_ok {n : Nat} {A : List SA} {ρ' : List (Option D)} (h : HL A ρ') : HL (ou n Pn A) (outs n Pn ρ') := by
  refine HL_map _ fun i hi => ?_
  split
  · cases e : lk A i with
    | j => trivial
    | e => exact HL.getE h e
    | v k x =>
      obtain ⟨d, e1, w⟩ := h.get e
      exact ⟨d, by rw [e1]; rfl, w⟩
  · rfl
theorem HL_in : ∀ {A : List SA} {ds : List D} {n : Nat}, HL A (ds.map some) → HL (A ++ List.replicate n .j) (ds.map some ++ List.replicate n none)
  | [], [], n, _ => by
    simp only [List.map_nil, List.nil_append]
    induction n with
    | zero => trivial
    | succ n ih => exact ⟨trivial, ih⟩
  | [], _ :: _, _, h => h.elim
  | _ :: _, [], _, h => h.elim
  | a :: A, d :: ds, n, h => ⟨h.1, HL_in h.2⟩
theorem fs_of [Cod β] {n nN : Nat} {body : List Sm} {ds : List D} {μ : List RO} {A : List SA} {c : Option ρ} {k : Kd} {g : ρ → β} {P : ρ → SS} (hl : ds.length = n) (hA : HL A (ds.map some)) (h : XS T Pn body ⟨A ++ List.replicate (nN - n) .j, μ⟩ c (QR (RV k g P))) : FS (runF T n nN Pn body) ds μ c k g (fun r => ou n Pn (P r).A) (fun r => (P r).μ) := fun a ha => by
  obtain ⟨fl, s, e, d, rfl, w, t⟩ := h ⟨ds.map some ++ List.replicate (nN - n) none, μ⟩ ⟨HL_in hA, rfl⟩ a ha
  refine ⟨d, _, ?_, w, ou_ok t.1⟩
  rw [runF_eq n nN body ds μ hl, e, runR_rt, t.2]
def QU (P : ρ → SS) : ρ → Fl → VS → Prop := fun r fl s => (fl = .nx ∨ fl = .rt .non) ∧ St (P r) s
theorem eu {P : ρ → SS} {r : ρ} (l : Le S (P r)) : ∀ s, St S s → QU P r .nx s := fun s h => ⟨.inl rfl, l.st h⟩
theorem FS.eq [Cod β] {m : List D → List RO → Option CR} {ds : List D} {μ : List RO} {c c' : Option α} {k : Kd} {g : α → β} {L : α → List SA} {μ' : α → List RO} (h : FS m ds μ c k g L μ') (e : c' = c) : FS m ds μ c' k g L μ' := by subst e; exact h
theorem hin_nil : HL [] (([] : List D).map some) := trivial
theorem hin_f {x : D} {A : List SA} {ds : List D} (h : HL A (ds.map some)) : HL (.v .f x :: A) ((x :: ds).map some) := ⟨⟨x, rfl, rfl⟩, h⟩
theorem hin_o {x : D} {A : List SA} {ds : List D} (h : HL A (ds.map some)) : HL (.v .o x :: A) ((ow x :: ds).map some) := ⟨⟨ow x, rfl, rfl⟩, h⟩
end
end PU
namespace PU
open VI
open L2 (Key)
open Cod (enc)
section
variable {T : Tab} {Pn : List Nat} {S S1 S2 S3 : SS} {α β γ δ α' β' γ' ω ω' ρ : Type}
theorem xs_ite {e : Ex} {A B cs : List Sm} {cc : Option α} {k : Kd} {gb : α → Bool} {Sb : α → SS} {cA cB : α → Option β} {Q : β → Fl → VS → Prop} (hc : EV T e S cc k gb Sb) (hA : ∀ b, XS T Pn (A ++ cs) (Sb b) (cA b) Q) (hB : ∀ b, XS T Pn (B ++ cs) (Sb b) (cB b) Q) : XS T Pn (.ite e A B :: cs) S (cc.bind fun b => if gb b then cA b else cB b) Q := fun s hs r hr => by
  obtain ⟨b, hb, hr⟩ := bind_some hr
  obtain ⟨d, s1, e1, w, t⟩ := hc s hs b hb
  rw [xs_cons, x_ite, e1, b_ok, hd_bl w, tR_bl]
  cases hg : gb b with
  | true =>
    rw [hg] at hr
    simp only [if_true] at hr ⊢
    obtain ⟨fl, s2, e2, q⟩ := hA b s1 t r hr
    exact ⟨fl, s2, by rw [← e2, execs_app], q⟩
  | false =>
    rw [hg] at hr
    simp only [Bool.false_eq_true, if_false] at hr ⊢
    obtain ⟨fl, s2, e2, q⟩ := hB b s1 t r hr
    exact ⟨fl, s2, by rw [← e2, execs_app], q⟩
theorem v_lcg [Cod γ] {e : Ex} {c : Option α} {g : α → List β} {cf : α → Option (List γ)} {k : Kd} {I : SS} (h : EV T e S (c.bind fun a => few (g a) ((cf a).bind fun l => some (a, l))) k (·.2) (fun _ => I)) : EC T e S (c.bind fun a => few (g a) (cf a)) k I := fun s h0 l hr => by
  obtain ⟨a, ha, hr⟩ := bind_some hr
  obtain ⟨hl, hr⟩ := few_some hr
  obtain ⟨d, s', e1, w, t⟩ := h s h0 (a, l) (by rw [ha]; simp only [Option.bind_some, few, hl, if_true, hr])
  exact ⟨d, s', e1, w, t⟩
def joinS (z : Nm) (l : List Nm) : Option Nm := if (l.map fun x => x.l.length).sum + l.length * z.l.length ≤ lim then (if h : ((PySem.Txt.join z.s (l.map Nm.s)).cps.toList.all fun c => decide (c < 1114112)) = true then some ⟨(PySem.Txt.join z.s (l.map Nm.s)).cps.toList, h⟩ else none) else none
theorem strsD_map : ∀ l : List Nm, strsD (l.map enc) = some (l.map Nm.s)
  | [] => rfl
  | a :: l => by
    show (strsD (l.map enc)).map _ = _
    rw [strsD_map l]
    rfl
theorem lens_map (l : List Nm) : (l.map Nm.s).map (·.length) = l.map fun x => x.l.length := by
  rw [List.map_map]
  exact List.map_congr_left fun x _ => Nm.s_len x
def cutN (z : Nm) (lo hi : Option Int) : Option Nm := if z.l.length ≤ lim then (if h : ((cutL z.l lo hi).all fun c => decide (c < 1114112)) = true then some ⟨cutL z.l lo hi, h⟩ else none) else none
theorem slD_s {k : Kd} {z r : Nm} {d : D} {lo hi : Option Int} (hz : hd k (enc z) d) (h : cutN z lo hi = some r) : slD d lo hi = some (enc r) := by
  rw [hd_nm hz]
  unfold cutN at h
  split at h
  · rename_i c
    split at h
    · cases h
      simp only [slD, Nm.s_len, c, if_true]
      rfl
    · cases h
  · cases h
theorem v_slvS {i : Nat} {lo hi : List Ex} {k0 k : Kd} {x0 : D} {c1 c2 : Option (Option Int)} {l : Nm} (h0 : lk S.A i = .v k0 x0) (h1 : EP T lo S c1 S1) (h2 : EP T hi S1 c2 S2) (h : lk S2.A i = .v k (enc l)) : EC T (.slc (.var i) lo hi) S (c1.bind fun a => c2.bind fun b => cutN l a b) .f S2 := fun s hs z hz => by
  obtain ⟨a, ha, e⟩ := bind_some hz
  obtain ⟨b, hb, hz⟩ := bind_some e
  obtain ⟨d0, e0, _⟩ := hs.get h0
  obtain ⟨s1, e1, t1⟩ := h1 s hs a ha
  obtain ⟨s2, e2, t2⟩ := h2 s1 t1 b hb
  obtain ⟨d, e, w⟩ := t2.get h
  refine ⟨enc z, s2, ?_, rfl, t2⟩
  rw [ev_slcv, e0, sR_some, e1, b_ok, e2, b_ok]
  simp only [AV.get, e, Option.bind_some, slD_s w hz, Option.map_some]
def Dct.getD {κ ν : Type} [DecidableEq κ] (d : Dct κ ν) (k : κ) (x : ν) : ν := match d.get k with | some y => y | none => x
def vls : List AV → List D
  | [] => []
  | .val d :: as => d :: vls as
  | .sl _ :: as => vls as
def allV : List AV → Bool
  | [] => true
  | .val _ :: as => allV as
  | .sl _ :: _ => false
theorem hands_vls : ∀ {as : List AV} (ρ : List (Option D)), allV as = true → hands as ρ = some (vls as, ρ)
  | [], ρ, _ => rfl
  | .val d :: as, ρ, h => by simp only [hands, hands_vls (as := as) ρ h, Option.map_some, vls]
  | .sl _ :: _, _, h => by cases h
theorem backs_vls : ∀ {as : List AV} {ps : List (Option D)} (ρ : List (Option D)), allV as = true → ps.length = as.length → backs as ps ρ = some ρ
  | [], [], ρ, _, _ => rfl
  | [], _ :: _, ρ, _, h => by simp at h
  | .val d :: as, [], ρ, _, h => by simp at h
  | .val d :: as, p :: ps, ρ, h, hl => by simpa only [backs] using backs_vls (as := as) (ps := ps) ρ h (by simpa using hl)
  | .sl _ :: _, _, _, h, _ => by cases h
def allE : List SA → Bool
  | [] => true
  | .e :: L => allE L
  | _ :: _ => false
theorem allE_ps : ∀ {L : List SA} {ps : List (Option D)}, allE L = true → HL L ps → noRefO ps = true
  | [], [], _, _ => rfl
  | [], _ :: _, _, h => h.elim
  | .e :: L, [], _, h => h.elim
  | .e :: L, p :: ps, e, h => by
    have h1 : p = none := h.1
    have h2 := allE_ps (L := L) (ps := ps) e h.2
    subst h1
    exact h2
theorem noRef_ow (d : D) : noRef (ow d) = noRef d := by cases d <;> first | rfl | simp only [ow, noRef, noRefs_ow0]
theorem nr_hd [Cod ρ] [NoR ρ] {k : Kd} {x : ρ} {d : D} (h : hd k (enc x) d) : noRef d = true := by
  rcases hd_a h with rfl | rfl
  · exact NoR.nr x
  · rw [noRef_ow]; exact NoR.nr x
theorem v_call0 [Cod ρ] [NoR ρ] {f : Nat} {as : List Ex} {c : Option α} {L : α → List AV} {p : α → Option ω} {k : Kd} {g : ω → ρ} {Lr : ω → List SA} {μ' : ω → List RO} (hg : EG T as S c L fun _ => S1) (hv : ∀ a, allV (L a) = true) (hn : ∀ a, noRefs (vls (L a)) = true)
    (hf : ∀ a, FS (T.call f) (vls (L a)) [] (p a) k g Lr μ') (hb : ∀ a r, (Lr r).length = (L a).length) (he : ∀ r, allE (Lr r) = true) :
    EC T (.call f as) S (c.bind fun a => (p a).bind fun r => some (g r)) k S1 := fun s h0 r hq => by
  obtain ⟨a, ha, hr⟩ := bind_some hq
  obtain ⟨r, hrr, e⟩ := bind_some hr
  cases e
  obtain ⟨_, s1, e1, t1⟩ := hg s h0 a ha
  obtain ⟨d, ps, e2, w, hL⟩ := hf a r hrr
  refine ⟨d, s1, ?_, w, t1⟩
  rw [ev_call, e1, b_ok]
  unfold callM
  have hb2 := backs_vls (ps := ps) s1.ρ (hv a) (hL.len.symm.trans (hb a r))
  simp only [hands_vls _ (hv a), hn a, if_true, e2]
  cases q : μ' r with
  | nil => simp only [hb2, Option.map_some]
  | cons _ _ => simp only [nr_hd w, allE_ps (he r) hL, Bool.and_self, if_true, hb2, Option.map_some]
theorem v_call1 [Cod ρ] [NoR ρ] {f : Nat} {as : List Ex} {c : Option α} {L : α → List AV} {p : α → Option ρ} {k : Kd} {Lr : ρ → List SA} {μ' : ρ → List RO} (hg : EG T as S c L fun _ => S1) (hv : ∀ a, allV (L a) = true) (hn : ∀ a, noRefs (vls (L a)) = true)
    (hf : ∀ a, FS (T.call f) (vls (L a)) [] (p a) k (fun r : ρ => r) Lr μ') (hb : ∀ a r, (Lr r).length = (L a).length) (he : ∀ r, allE (Lr r) = true) :
    EC T (.call f as) S (c.bind p) k S1 := fun s h0 r hq => v_call0 hg hv hn hf hb he s h0 r (by
  obtain ⟨a, ha, hr⟩ := bind_some hq
  rw [ha, Option.bind_some, hr]
  rfl)
end
end PU
namespace PU
open VI
open L2 (Key)
open Cod (enc)
open PySem (NestedKey)
class Nkc (α : Type) [Cod α] where
  nk : α → VN.NK
  ok : ∀ a, keyN (enc a) = some (nk a)
  inj : ∀ a b, nk a = nk b → a = b
  dp : Nat
  dep : ∀ a, (nk a).depth ≤ dp
theorem keyNs_map {α : Type} [Cod α] [Nkc α] : ∀ l : List α, keyNs (l.map enc) = some (l.map Nkc.nk)
  | [] => rfl
  | a :: l => by simp only [List.map_cons, keyNs, Nkc.ok, keyNs_map l]
theorem nk_map_inj {α : Type} [Cod α] [Nkc α] : ∀ a b : List α, a.map Nkc.nk = b.map (Nkc.nk (α := α)) → a = b
  | [], [], _ => rfl
  | [], _ :: _, h => by simp at h
  | _ :: _, [], h => by simp at h
  | x :: a, y :: b, h => by
    simp only [List.map_cons, List.cons.injEq] at h
    rw [Nkc.inj x y h.1, nk_map_inj a b h.2]
theorem depth_tup (ks : List VN.NK) (n : Nat) (h : ∀ k ∈ ks, k.depth ≤ n) : (NestedKey.tup ks).depth ≤ n + 1 := by
  have : ∀ ks : List VN.NK, (∀ k ∈ ks, k.depth ≤ n) → NestedKey.depthAll ks ≤ n := by
    intro ks
    induction ks with
    | nil => intro _; simp [NestedKey.depthAll]
    | cons k ks ih =>
      intro h
      have h1 := h k List.mem_cons_self
      have h2 := ih fun x hx => h x (List.mem_cons_of_mem _ hx)
      simp only [NestedKey.depthAll]
      omega
  have := this ks h
  simp only [NestedKey.depth]
  omega
instance : Nkc Nm := ⟨fun x => .text x.s, fun _ => rfl, fun a b h => Nm.s_inj (by injection h), 1, fun _ => by simp [NestedKey.depth]⟩
instance : Nkc Int := ⟨.num, fun _ => rfl, fun a b h => by injection h, 1, fun _ => by simp [NestedKey.depth]⟩
instance : Nkc Unit := ⟨fun _ => .none, fun _ => rfl, fun _ _ _ => rfl, 1, fun _ => by simp [NestedKey.depth]⟩
instance {α : Type} [Cod α] [Nkc α] : Nkc (Tu α) := ⟨fun x => .tup (x.l.map Nkc.nk), fun x => by
  show (keyNs (x.l.map enc)).map _ = _
  rw [keyNs_map]
  rfl, fun a b h => by
  obtain ⟨a⟩ := a
  obtain ⟨b⟩ := b
  injection h with h
  rw [nk_map_inj a b h], Nkc.dp α + 1, fun x => depth_tup _ _ fun k hk => by
  obtain ⟨a, _, rfl⟩ := List.mem_map.mp hk
  exact Nkc.dep a⟩
instance {α β : Type} [Cod α] [Nkc α] [Cod β] [Nkc β] : Nkc (α × β) := ⟨fun x => .tup [Nkc.nk x.1, Nkc.nk x.2], fun x => by
  show (keyNs [enc x.1, enc x.2]).map _ = _
  simp only [keyNs, Nkc.ok, Option.map_some], fun a b h => by
  obtain ⟨a1, a2⟩ := a
  obtain ⟨b1, b2⟩ := b
  injection h with h
  injection h with h1 h
  injection h with h2 h
  rw [Nkc.inj a1 b1 h1, Nkc.inj a2 b2 h2], max (Nkc.dp α) (Nkc.dp β) + 1, fun x => depth_tup _ _ fun k hk => by
  have := Nkc.dep x.1
  have := Nkc.dep x.2
  simp only [List.mem_cons, List.not_mem_nil, or_false] at hk
  rcases hk with rfl | rfl <;> omega⟩
instance {α : Type} [Cod α] [Nkc α] : Nkc (Option (Tu α)) := ⟨fun x => match x with | none => .none | some x => Nkc.nk x, fun x => by
  cases x with
  | none => rfl
  | some x => exact Nkc.ok x, fun a b h => match a, b, h with
  | none, none, _ => rfl
  | some a, some b, h => congrArg some (Nkc.inj a b h)
  | none, some _, h => NestedKey.noConfusion h
  | some _, none, h => NestedKey.noConfusion h, Nkc.dp α + 1, fun x => by
  cases x with
  | none => simp [NestedKey.depth]
  | some x => exact Nkc.dep x⟩
class Keyn (κ : Type) [Cod κ] where
  key : κ → VN.NK
  ok : ∀ a, keyT (enc a) = some (key a)
  inj : ∀ a b, key a = key b → a = b
class Low (α : Type) [Cod α] [Nkc α] : Prop where
  l : Nkc.dp α ≤ 8
instance {α β : Type} [Cod α] [Nkc α] [Cod β] [Nkc β] [Low (α × β)] : Keyn (α × β) := ⟨Nkc.nk, fun a => by
  have h1 := Nkc.ok a
  have h2 := Nkc.dep a
  have h3 := Low.l (α := α × β)
  show (keyNs [enc a.1, enc a.2]).bind _ = _
  have e : keyNs [enc a.1, enc a.2] = some [Nkc.nk a.1, Nkc.nk a.2] := by simp only [keyNs, Nkc.ok]
  rw [e]
  show (if (NestedKey.tup [Nkc.nk a.1, Nkc.nk a.2]).depth ≤ 8 then _ else none) = _
  exact if_pos (show (Nkc.nk a).depth ≤ 8 by omega), Nkc.inj⟩
instance {α : Type} [Cod α] [Nkc α] [Low (Tu α)] : Keyn (Tu α) := ⟨Nkc.nk, fun a => by
  have h2 := Nkc.dep a
  have h3 := Low.l (α := Tu α)
  show (keyNs (a.l.map enc)).bind _ = _
  rw [keyNs_map]
  show (if (NestedKey.tup (a.l.map Nkc.nk)).depth ≤ 8 then _ else none) = _
  exact if_pos (show (Nkc.nk a).depth ≤ 8 by omega), Nkc.inj⟩
instance : Low (Nm × Option (Tu Int)) := ⟨by decide⟩
instance : Low (Tu Int) := ⟨by decide⟩
instance : Low (Tu (Option (Tu Int))) := ⟨by decide⟩
instance : Low (Int × Int) := ⟨by decide⟩
structure Dcn (κ ν : Type) where
  l : List (κ × ν)
deriving DecidableEq
namespace Dcn
variable {κ ν : Type} [DecidableEq κ]
def get (d : Dcn κ ν) (k : κ) : Option ν := Dct.getL d.l k
def has (d : Dcn κ ν) (k : κ) : Bool := (d.get k).isSome
def set (d : Dcn κ ν) (k : κ) (v : ν) : Dcn κ ν := if d.has k then ⟨d.l.map fun p => if p.1 = k then (p.1, v) else p⟩ else ⟨d.l ++ [(k, v)]⟩
end Dcn
section
variable {T : Tab} {Pn : List Nat} {S S1 S2 S3 : SS} {α β γ δ : Type} {κ ν : Type} [Cod κ] [Keyn κ] [Cod ν]
instance : Cod (Dcn κ ν) := ⟨fun x => .dicN false (x.l.map fun p => Keyn.key p.1) (x.l.map fun p => enc p.2), fun l => by simp only [allF, allFs_map (f := fun p : κ × ν => enc p.2) (fun p => Cod.fz p.2), Bool.not_false, Bool.and_self]⟩
instance [NoR ν] : NoR (Dcn κ ν) := ⟨fun x => by simp only [enc, noRef, noRefs_map (f := fun p : κ × ν => enc p.2) (fun p => NoR.nr p.2)]⟩
variable [DecidableEq κ]
def setN (x : ν) (k : κ) (d : Dcn κ ν) : Option (Unit × Dcn κ ν) := if d.l.length < lim then some ((), d.set k x) else none
end
structure Shp where
  plain_cells : List Nm
  computed_cells : List Nm
  reading : Dct Nm (Tu Nm)
  all_cells : List Nm
deriving DecidableEq
abbrev fnShp : List PySem.Str := ["plain_cells", "computed_cells", "reading", "all_cells"]
instance : Cod Shp := ⟨fun s => .ins "Shape" fnShp [enc s.plain_cells, enc s.computed_cells, enc s.reading, enc s.all_cells], fun s => by simp only [allF, allFs, Cod.fz, Bool.and_self]⟩
instance : NoR Shp := ⟨fun s => by
  show (noRef (enc s.plain_cells) && (noRef (enc s.computed_cells) && (noRef (enc s.reading) && (noRef (enc s.all_cells) && true)))) = true
  simp only [NoR.nr, Bool.and_self]⟩
end PU
namespace PU
open VI
open L2 (Key)
open Cod (enc)
open PySem (NestedKey)
inductive Pk where
  | n (x : Nm) | e (x : Nm) (k : Int)
deriving DecidableEq
instance : Cod Pk := ⟨fun p => match p with | .n x => enc x | .e x k => enc (x, k), fun p => by cases p <;> exact Cod.fz _⟩
instance : NoR Pk := ⟨fun p => match p with | .n x => NoR.nr x | .e x k => NoR.nr (x, k)⟩
instance : Nn Pk := ⟨fun p => by cases p <;> rfl⟩
instance : Nkc Pk := ⟨fun p => match p with | .n x => Nkc.nk x | .e x k => Nkc.nk (x, k), fun p => match p with | .n x => Nkc.ok x | .e x k => Nkc.ok (x, k), fun a b h => match a, b, h with
  | .n a, .n b, h => congrArg Pk.n (Nkc.inj a b h)
  | .e a i, .e b j, h => by
    have := Nkc.inj (a, i) (b, j) h
    cases this
    rfl
  | .n a, .e b j, h => NestedKey.noConfusion h
  | .e a i, .n b, h => NestedKey.noConfusion h, 2, fun p => by
  cases p with
  | n x => exact Nat.le_trans (Nkc.dep x) (by decide)
  | e x k => exact Nkc.dep (x, k)⟩
instance : Low (Pk × Option (Tu Int)) := ⟨by decide⟩
abbrev PRow := Pk × Option (Tu Int)
structure PartsV where
  rows : List PRow
  numbers : Dcn PRow Int
structure StandingV where
  shape : Shp
  parts : Rf
  now : Dct Nm Int
-- <cls>
structure AimV where
  shape : Shp
  matter : List Nm
  aimed : List Nm
  start : Rf
  results : List Int
  end_ : Rf
  near : Dct Nm (List Nm)
structure MatchingV where
  parts : Rf
  dues : Dct Int Int
  seen : List (Int × Int)
structure TrialV where
  sheet : Rf
  kept : List (Rf × Bool)
structure SheetV where
  shape : Shp
  story : List (Rf × Bool)
-- </cls>
inductive Obj where
  | raw (r : RO)
  | parts (v : PartsV)
  | standing (v : StandingV)
  | aim (n : Nat) (v : AimV)
  | matching (n : Nat) (v : MatchingV)
  | trial (n : Nat) (v : TrialV)
  | sheet (n : Nat) (v : SheetV)
  | matchF (v : MatchingV)
def Obj.ro : Obj → RO
  | .raw r => r
  | .parts v => ⟨"Parts", ["rows", "numbers"], [ow (enc v.rows), ow (enc v.numbers)]⟩
  | .standing v => ⟨"Standing", ["shape", "parts", "now"], [enc v.shape, enc v.parts, ow (enc v.now)]⟩
  | .aim n v => ⟨"Aim", List.take n ["shape", "matter", "aimed", "start", "results", "end", "near"], List.take n [enc v.shape, enc v.matter, enc v.aimed, enc v.start, ow (enc v.results), enc v.end_, ow (enc v.near)]⟩
  | .matching n v => ⟨"Matching", List.take n ["parts", "dues", "seen"], List.take n [enc v.parts, ow (enc v.dues), ow (enc v.seen)]⟩
  | .trial n v => ⟨"Trial", List.take n ["sheet", "kept"], List.take n [enc v.sheet, enc v.kept]⟩
  | .sheet n v => ⟨"Sheet", List.take n ["shape", "story"], List.take n [enc v.shape, enc v.story]⟩
  | .matchF v => ⟨"Matching", ["parts", "dues", "seen"], [enc v.parts, enc v.dues, ow (enc v.seen)]⟩
def He (h : List Obj) : List RO := h.map Obj.ro
section
variable {T : Tab} {Pn : List Nat} {S S1 S2 S3 : SS} {A A1 A2 : List SA} {h h1 h2 : List Obj} {V α β γ δ α' β' γ' ω ω' ρ : Type}
def FF (m : List D → List RO → Option CR) (C : PySem.Str) (ds : List D) [Cod β] (c : Option β) : Prop := ∀ x, c = some x → ∃ ps fn fs, m (.ref 0 :: ds) [⟨C, [], []⟩] = some (.ok .non ps [⟨C, fn, fs⟩]) ∧ enc x = .ins C fn (frzs fs) ∧ noRefs fs = true
end
end PU
namespace PU
open VI
open L2 (Key)
open Cod (enc)
section
variable {T : Tab} {Pn : List Nat} {S S1 S2 S3 : SS} {A A1 A2 : List SA} {h h1 h2 : List Obj} {V α β γ δ α' β' γ' ω ω' ρ : Type}
theorem FF.eq [Cod β] {m : List D → List RO → Option CR} {C : PySem.Str} {ds : List D} {c c' : Option β} (h : FF m C ds c) (e : c' = c) : FF m C ds c' := by subst e; exact h
class Flt (α : Type) [Cod α] : Prop where
  f : ∀ (k : Kd) (x : α) (d : D), hd k (enc x) d → noFrz d = true
instance : Flt Int := ⟨fun _ _ _ h => by rw [hd_int h]; rfl⟩
instance : Flt Bool := ⟨fun _ _ _ h => by rw [hd_bl h]; rfl⟩
instance : Flt Nm := ⟨fun _ _ _ h => by rw [hd_nm h]; rfl⟩
theorem bs {a : α} {f : α → Option β} : (some a).bind f = f a := by
  have h : ∀ o : Option α, o = some a → o.bind f = f a := fun o ho => by rw [ho]; rfl
  exact h _ rfl
theorem ms {a : α} {f : α → β} : (some a).map f = some (f a) := by
  have h : ∀ o : Option α, o = some a → o.map f = some (f a) := fun o ho => by rw [ho]; rfl
  exact h _ rfl
theorem ids {a : α} : id a = a := by
  have h : ∀ b : α, b = a → id b = a := fun b hb => by rw [hb]; rfl
  exact h _ rfl
theorem fs_law {nN : Nat} {body : List Sm} {ns : List Int} {c : Option Bool} {k : Kd} {L : Bool → List SA} {μ' : Bool → List RO} (h : FS (runF T 1 nN [] body) [enc (⟨ns⟩ : Scr)] [] c k (fun r : Bool => r) L μ') (hc : c = some true) : ∃ s, VI.execs T [] body ⟨some (.scr ns) :: List.replicate (nN - 1) none, []⟩ = some (.ok (.rt (.bl true)) s) := by
  obtain ⟨d, ps, e, w, _⟩ := h true hc
  have hd := hd_bl w
  subst hd
  rw [runF_eq 1 nN body _ _ rfl] at e
  have e' : runR 1 [] (VI.execs T [] body ⟨some (.scr ns) :: List.replicate (nN - 1) none, []⟩) = some (.ok (.bl true) ps (μ' true)) := e
  cases q : VI.execs T [] body ⟨some (.scr ns) :: List.replicate (nN - 1) none, []⟩ with
  | none => rw [q] at e'; cases e'
  | some r =>
    rw [q] at e'
    cases r with
    | ex x s => cases e'
    | ok fl s =>
      cases fl with
      | nx => cases e'
      | ct => cases e'
      | bk => cases e'
      | rt d =>
        rw [runR_rt] at e'
        injection e' with e'
        injection e' with e1
        subst e1
        exact ⟨s, rfl⟩
end
end PU
namespace PU
open VI
open Cod (enc)
section
variable {T : Tab} {S S1 S2 S3 : SS} {α β γ δ V : Type}
class Tru (α : Type) [Cod α] where
  tr : α → Bool
  ok : ∀ (k : Kd) (a : α) (d : D), hd k (enc a) d → truD d = some (tr a)
instance : Tru Int := ⟨fun i => i != 0, fun _ _ _ h => by rw [hd_int h]; rfl⟩
instance : Tru Bool := ⟨fun i => i, fun _ _ _ h => by rw [hd_bl h]; rfl⟩
instance [Cod α] : Tru (List α) := ⟨fun l => !l.isEmpty, fun _ a _ h => by
  obtain ⟨o, rfl⟩ := hd_l h
  cases a <;> rfl⟩
instance [Cod α] : Tru (Tu α) := ⟨fun l => !l.l.isEmpty, fun _ a _ h => by
  rw [hd_tu h]
  obtain ⟨l⟩ := a
  cases l <;> rfl⟩
def tru [Cod α] [Tru α] (a : α) : Bool := Tru.tr a
theorem v_joiE {z : PySem.Str} {h} {a : Ex} {c : Option α} {g : α → List Nm} {S' : α → SS} {k : Kd} (ha : EV T a S c k g S') : EV T (.joi z a) S (c.bind fun x => (joinS (nm z h) (g x)).map fun y => (x, y)) .f (·.2) (fun r => S' r.1) := fun s hs r hr => by
  obtain ⟨l0, hl, hr⟩ := bind_some hr
  obtain ⟨y, hr, rfl⟩ := map_some hr
  obtain ⟨d, s1, e1, w, t⟩ := ha s hs l0 hl
  generalize hgl : g l0 = l at hr w
  unfold joinS at hr
  split at hr
  · rename_i cc
    split at hr
    · cases hr
      obtain ⟨o, rfl⟩ := hd_l w
      refine ⟨_, s1, ?_, rfl, t⟩
      rw [ev_joi, e1, b_ok]
      show M.opt ((strsD (l.map enc)).bind _) s1 = _
      rw [strsD_map, Option.bind_some, lens_map, List.length_map]
      have : z.length = (nm z h).l.length := by simp [nm, PySem.Str.length]
      rw [this, if_pos cc]
      rfl
    · cases hr
  · cases hr
def repN (x : Nm) (n : Int) : Nm := ⟨(List.replicate n.toNat x.l).flatten, by
  refine List.all_eq_true.mpr fun c hc => ?_
  obtain ⟨l, hl, h⟩ := List.mem_flatten.mp hc
  rw [(List.mem_replicate.mp hl).2] at h
  exact List.all_eq_true.mp x.ok c h⟩
theorem foldl_app (xs : Array Nat) : ∀ (n : Nat) (acc : Array Nat), ((List.replicate n xs).foldl (· ++ ·) acc).toList = acc.toList ++ (List.replicate n xs.toList).flatten
  | 0, acc => by simp
  | n + 1, acc => by
    rw [List.replicate_succ, List.foldl_cons, foldl_app xs n, List.replicate_succ, List.flatten_cons]
    simp
theorem repN_s (x : Nm) (n : Int) : PySem.Txt.mul x.s n = (repN x n).s := by
  have key : (PySem.Txt.mul x.s n).cps.toList = (repN x n).l := by
    show _ = (List.replicate n.toNat x.l).flatten
    unfold PySem.Txt.mul
    by_cases h : n < 1
    · rw [if_pos h]
      have : n.toNat = 0 := by omega
      rw [this]
      rfl
    · rw [if_neg h]
      by_cases h2 : (n == 1 || x.s.length == 0) = true
      · rw [if_pos h2]
        rw [Bool.or_eq_true] at h2
        rcases h2 with h2 | h2
        · have : n = 1 := by simpa using h2
          subst this
          show x.l.toArray.toList = _
          simp
        · have h3 : x.l.length = 0 := by
            have : x.s.length = 0 := by simpa using h2
            rw [Nm.s_len] at this
            exact this
          have : x.l = [] := List.length_eq_zero_iff.mp h3
          show x.l.toArray.toList = _
          rw [this]
          simp
      · rw [if_neg h2]
        show ((List.replicate n.toNat x.s.cps).foldl (· ++ ·) #[]).toList = _
        rw [foldl_app]
        rfl
  show PySem.Txt.mul x.s n = ⟨(repN x n).l.toArray⟩
  rw [← key]
def mulS (x : Nm) (n : Int) : Option Nm := if x.l.length ≤ 4000 ∧ -(2 ^ 63) ≤ n ∧ n ≤ 4000 then some (repN x n) else none
theorem o_mulS : O2 .mul .f mulS := fun x y z d1 d2 h h1 h2 => by
  rw [hd_nm h1, hd_int h2]
  obtain ⟨c, rfl⟩ := if_some h
  refine ⟨.str (repN x y).s, ?_, rfl⟩
  simp only [Pr.fn, fn2, mulD, Nm.s_len]
  rw [if_pos c, repN_s]
instance : Low (Nm × Tu Int) := ⟨by decide⟩
end
section
variable {T : Tab} {S S1 S2 S3 : SS} {α β γ δ : Type}
def ELE (T : Tab) (es : List Ex) (S : SS) [Cod β] (c : Option α) (g : α → List β) (S' : α → SS) : Prop :=
  ∀ s, St S s → ∀ a, c = some a → (g a).length = es.length ∧ ∃ s', evs T es s = some (.ok ((g a).map enc) s') ∧ St (S' a) s'
theorem lE_nil [Cod β] : ELE T [] S (some ()) (fun _ => ([] : List β)) (fun _ => S) := fun s hs a ha => ⟨rfl, s, evs_nil s, hs⟩
theorem lE_cons [Cod β] {e : Ex} {es : List Ex} {ce : Option γ} {g : γ → β} {Sx : γ → SS} {k : Kd} {c : γ → Option α} {G : γ → α → List β} {S' : γ → α → SS} (he : EV T e S ce k g Sx) (hs : ∀ x, ELE T es (Sx x) (c x) (G x) (S' x)) : ELE T (e :: es) S (ce.bind fun x => (c x).bind fun y => some (x, y)) (fun r => g r.1 :: G r.1 r.2) (fun r => S' r.1 r.2) := fun s h0 r hr => by
  obtain ⟨x, hx, ef⟩ := bind_some hr
  obtain ⟨y, hy, ef⟩ := bind_some ef
  cases ef
  obtain ⟨d, s1, e1, w1, t1⟩ := he s h0 x hx
  obtain ⟨hn, s2, e2, t2⟩ := hs x s1 t1 y hy
  exact ⟨by simp [hn], s2, by rw [evs_cons, e1, b_ok, e2, b_ok, hd_frzE w1]; rfl, t2⟩
theorem v_lstE [Cod β] {es : List Ex} {c : Option α} {G : α → List β} {S' : α → SS} (h : ELE T es S c G S') (hl : es.length ≤ lim) : EV T (.lst es) S c .o G S' := fun s hs a hc => by
  obtain ⟨hn, s1, e, t⟩ := h s hs a hc
  refine ⟨.lst true ((G a).map enc), s1, ?_, rfl, t⟩
  rw [ev_lst, e, b_ok, if_pos (by rw [List.length_map, hn]; exact hl)]
end
instance : Room (List Nm) := ⟨by decide⟩
end PU
namespace PU
open VI
open Cod (enc)
section
variable {T : Tab} {S S1 S2 S3 : SS} {α β γ δ V ω ω' ρ : Type} {Pn : List Nat}
def srtI (l : List Int) : Option (List Int) := if l.length < 64 then some (l.mergeSort fun a b => decide (a ≤ b)) else none
end
end PU
namespace PU
instance : Room (Nm × Int) := ⟨by decide⟩
end PU
namespace PU
open VI
open Cod (enc)
section
variable {α : Type}
theorem py_nn [Cod α] [DecidableEq α] [Eqc α] [Nn α] (a : α) : PySem.PyData.eqv (Eqc.py a) .none = false ∧ PySem.PyData.eqv .none (Eqc.py a) = false := by
  have h1 := Eqc.to a
  have h2 := Nn.nn a
  generalize enc a = d at h1 h2
  cases d with
  | non => cases h2
  | bl b => rw [← Option.some.inj (show some (PySem.PyData.bool b) = some (Eqc.py a) from h1)]; exact ⟨rfl, rfl⟩
  | int b => rw [← Option.some.inj (show some (PySem.PyData.int b) = some (Eqc.py a) from h1)]; exact ⟨rfl, rfl⟩
  | str b => rw [← Option.some.inj (show some (PySem.PyData.str b) = some (Eqc.py a) from h1)]; exact ⟨rfl, rfl⟩
  | lst o ds =>
    obtain ⟨xs, _, e⟩ := map_some (show (toPys ds).map .list = some (Eqc.py a) from h1)
    rw [← e]
    exact ⟨rfl, rfl⟩
  | tup ds =>
    obtain ⟨xs, _, e⟩ := map_some (show (toPys ds).map .tuple = some (Eqc.py a) from h1)
    rw [← e]
    exact ⟨rfl, rfl⟩
  | _ => cases h1
instance [Cod α] [DecidableEq α] [Eqc α] [Nn α] : Eqc (Option α) := ⟨fun x => match x with | none => .none | some a => Eqc.py a, fun x => by
  cases x with
  | none => rfl
  | some a => exact Eqc.to a, fun x => by
  cases x with
  | none => rfl
  | some a => exact Eqc.lay a, max 1 (Eqc.dp α), fun x => by
  cases x with
  | none => exact Nat.le_max_left _ _
  | some a => exact Nat.le_trans (Eqc.dep a) (Nat.le_max_right _ _), by
  have := Eqc.lo (α := α)
  omega, fun x y => by
  cases x with
  | none =>
    cases y with
    | none => rfl
    | some b => simp [(py_nn b).2]
  | some a =>
    cases y with
    | none => simp [(py_nn a).1]
    | some b => simp [Eqc.eqv]⟩
end
end PU
namespace PU
open VI
open Cod (enc)
section
variable {T : Tab} {Pn : List Nat} {S S1 S2 S3 : SS} {α β γ δ V ω ρ : Type}
def sgsL (x : Nm) : List Nm := x.l.attach.map fun c => ⟨[c.1], by
  have := List.all_eq_true.mp x.ok c.1 c.2
  simpa using this⟩
def lstN (x : Nm) : Option (List Nm) := if x.l.length ≤ lim then some (sgsL x) else none
instance : Room (Int × Int) := ⟨by decide⟩
end
end PU
namespace PU
open VI
section
variable {α β γ δ ω ρ : Type}
theorem at_nat (l : List α) (j : Nat) : at' l (j : Int) = l[j]? := by
  unfold at' L2.atI L2.ixN
  rw [if_pos (by omega)]
  by_cases h : j < l.length
  · rw [if_pos (by omega)]
    simp
  · rw [if_neg (by omega), List.getElem?_eq_none (by omega)]
    rfl
theorem at_int {l : List α} {i : Int} (h0 : 0 ≤ i) : at' l i = l[i.toNat]? := by
  obtain ⟨n, rfl⟩ := Int.eq_ofNat_of_zero_le h0
  rw [at_nat]
  rfl
theorem at_lt {l : List α} {i : Int} (h0 : 0 ≤ i) (h : i < l.length) : ∃ x, at' l i = some x ∧ x ∈ l := by
  rw [at_int h0]
  have : i.toNat < l.length := by omega
  exact ⟨l[i.toNat], by simp [this], List.getElem_mem this⟩
theorem at_last (l : List α) : at' l (-1) = l.getLast? := by
  unfold at' L2.atI L2.ixN
  rw [if_neg (by omega)]
  rw [List.getLast?_eq_getElem?]
  by_cases h : l = []
  · subst h
    rfl
  · have : 0 < l.length := List.length_pos_iff.mpr h
    rw [if_pos (by omega)]
    simp only [Option.bind_some]
    congr 1
    omega
theorem sIx_pos (n d : Nat) {i : Int} (h : 0 ≤ i) : HT.sIx n d (some i) = min i.toNat n := by
  show (if i < 0 then (i + (n : Int)).toNat else min i.toNat n) = _
  rw [if_neg (by omega)]
theorem cut_to (l : List α) {k : Int} (h : 0 ≤ k) : cutL l none (some k) = l.take k.toNat := by
  unfold cutL
  rw [sIx_pos _ _ h]
  show (l.drop 0).take _ = _
  rw [List.drop_zero]
  show l.take (min k.toNat l.length - 0) = _
  rw [Nat.sub_zero, ← List.take_eq_take_min]
theorem cut_from (l : List α) {k : Int} (h : 0 ≤ k) : cutL l (some k) none = l.drop k.toNat := by
  unfold cutL
  rw [sIx_pos _ _ h]
  show (l.drop (min k.toNat l.length)).take (l.length - min k.toNat l.length) = _
  rw [List.take_of_length_le (by rw [List.length_drop]; exact Nat.le_refl _)]
  by_cases hk : k.toNat ≤ l.length
  · rw [Nat.min_eq_left hk]
  · rw [Nat.min_eq_right (by omega), List.drop_length, List.drop_of_length_le (by omega)]
theorem addL_ok {x y : List α} (h : x.length + y.length ≤ lim) : addL x y = some (x ++ y) := if_pos h
theorem setl_ok {l : List α} {i : Nat} {x : α} (h : i < l.length) : setl x (i : Int) l = some ((), l.set i x) := by
  unfold setl
  have : L2.ixN l.length (i : Int) = some i := by
    unfold L2.ixN
    rw [if_pos (by omega), if_pos (by omega)]
    rfl
  rw [this]
  rfl
theorem log2_small {n : Nat} (h : n < 2 ^ 250) : n.log2 < 250 := by
  by_cases z : n = 0
  · subst z; decide
  · exact (Nat.log2_lt z).mpr h
theorem mulI_ok {i j : Int} (hi : i.natAbs < 2 ^ 250) (hj : j.natAbs < 2 ^ 250) : mulI i j = some (i * j) := by
  have h1 := log2_small hi
  have h2 := log2_small hj
  exact if_pos (by omega)
theorem modI_ok {i j : Int} (h : 0 < j) : modI i j = some (i % j) := if_pos h
theorem fdivI_ok {i j : Int} (h : 0 < j) (hj : j.natAbs < 2 ^ 250) : fdivI i j = some (i / j) := by
  have h2 := log2_small hj
  exact if_pos ⟨h, by omega⟩
def rngN (n : Nat) : List Int := (List.range n).map fun i : Nat => (i : Int)
theorem rngN_len (n : Nat) : (rngN n).length = n := by simp [rngN]
theorem rngN_mem {n : Nat} {i : Int} : i ∈ rngN n ↔ 0 ≤ i ∧ i < n := by
  unfold rngN
  simp only [List.mem_map, List.mem_range]
  constructor
  · rintro ⟨k, hk, rfl⟩
    omega
  · intro h
    exact ⟨i.toNat, by omega, by omega⟩
theorem rngG_ok {n : Int} (h0 : 0 ≤ n) (h : n ≤ 1000000) : rngG n = some (rngN n.toNat) := by
  have hl : (lim : Int) = 1000000 := rfl
  exact if_pos ⟨by omega, by omega⟩
theorem rngG_nat {n : Nat} (h : n ≤ 1000000) : rngG (n : Int) = some (rngN n) := rngG_ok (by omega) (by omega)
theorem few_ok {xs : List β} {c : Option γ} (h : xs.length ≤ lim) : few xs c = c := if_pos h
theorem mpO_ok {f : β → Option γ} {g : β → γ} : ∀ {xs : List β}, (∀ x ∈ xs, f x = some (g x)) → mpO f xs = some (xs.map g)
  | [], _ => rfl
  | x :: xs, h => by
    simp only [mpO, h x List.mem_cons_self, Option.bind_some, mpO_ok fun y hy => h y (List.mem_cons_of_mem _ hy), List.map_cons]
theorem mpW_inv {f : β → ω → Option (γ × ω)} (P : γ → Prop) : ∀ (xs : List β) (I : Nat → ω → Prop) (w : ω), I 0 w → (∀ (i : Nat) (x : β) (w : ω), xs[i]? = some x → I i w → ∃ y w', f x w = some (y, w') ∧ P y ∧ I (i + 1) w') → ∃ ys w', mpW f xs w = some (ys, w') ∧ ys.length = xs.length ∧ (∀ y ∈ ys, P y) ∧ I xs.length w'
  | [], I, w, h, _ => ⟨[], w, rfl, rfl, (fun y hy => by cases hy), h⟩
  | x :: xs, I, w, h, st => by
    obtain ⟨y, w1, e, hy, h1⟩ := st 0 x w rfl h
    obtain ⟨ys, w2, e2, hl, hP, h2⟩ := mpW_inv P xs (fun i => I (i + 1)) w1 h1 fun i x w hx => st (i + 1) x w (by simpa using hx)
    refine ⟨y :: ys, w2, by simp only [mpW, e, Option.bind_some, e2], by simp [hl], ?_, h2⟩
    intro z hz
    rcases List.mem_cons.mp hz with rfl | hz
    · exact hy
    · exact hP z hz
theorem loopO_inv {f : β → ω → Option (Fo ω ρ)} : ∀ (xs : List β) (I : Nat → ω → Prop) (w : ω), I 0 w → (∀ (i : Nat) (x : β) (w : ω), xs[i]? = some x → I i w → ∃ w', f x w = some (.nx w') ∧ I (i + 1) w') → ∃ w', loopO f xs w = some (.nx w') ∧ I xs.length w'
  | [], I, w, h, _ => ⟨w, rfl, h⟩
  | x :: xs, I, w, h, st => by
    obtain ⟨w1, e, h1⟩ := st 0 x w rfl h
    obtain ⟨w2, e2, h2⟩ := loopO_inv xs (fun i => I (i + 1)) w1 h1 fun i x w hx => st (i + 1) x w (by simpa using hx)
    exact ⟨w2, by simp only [loopO, e, Option.bind_some, e2], h2⟩
theorem loopO_bind {f : β → ω → Option (Fo ω ρ)} {K : ω → Option γ} {F : ρ → γ} {xs : List β} {w : ω} (P : Option γ → Prop) (I : Nat → ω → Prop) (h0 : I 0 w) (st : ∀ (i : Nat) (x : β) (w : ω), xs[i]? = some x → I i w → ∃ w', f x w = some (.nx w') ∧ I (i + 1) w') (fin : ∀ w', I xs.length w' → P (K w')) : P ((loopO f xs w).bind (foB K F)) := by
  obtain ⟨w', e, h⟩ := loopO_inv xs I w h0 st
  rw [e]
  exact fin w' h
section
variable {κ ν : Type} [DecidableEq κ]
theorem getL_map (k k' : κ) (v : ν) : ∀ l : List (κ × ν), Dct.getL (l.map fun p => if p.1 = k then (p.1, v) else p) k' = if k' = k then (Dct.getL l k').map fun _ => v else Dct.getL l k'
  | [] => by simp [Dct.getL]
  | p :: l => by
    simp only [List.map_cons, Dct.getL]
    have ih := getL_map k k' v l
    by_cases h1 : p.1 = k
    · rw [if_pos h1]
      by_cases h2 : k' = k
      · subst h2
        simp [h1]
      · have : ¬ p.1 = k' := fun e => h2 (e.symm.trans h1)
        simp only [this, if_false, ih, h2]
    · rw [if_neg h1, ih]
      by_cases h2 : p.1 = k'
      · have : ¬ k' = k := fun e => h1 (h2.trans e)
        simp [h2, this]
      · simp [h2]
theorem getL_app (k : κ) (p : κ × ν) : ∀ l : List (κ × ν), Dct.getL (l ++ [p]) k = (Dct.getL l k).or (if p.1 = k then some p.2 else none)
  | [] => by simp [Dct.getL]
  | q :: l => by
    simp only [List.cons_append, Dct.getL, getL_app k p l]
    by_cases h : q.1 = k <;> simp [h]
theorem Dct.get_set (d : Dct κ ν) (k k' : κ) (v : ν) : (d.set k v).get k' = if k' = k then some v else d.get k' := by
  unfold Dct.set Dct.has Dct.get
  by_cases h : (Dct.getL d.l k).isSome = true
  · rw [if_pos h]
    simp only [getL_map]
    by_cases e : k' = k
    · subst e
      obtain ⟨x, hx⟩ := Option.isSome_iff_exists.mp h
      simp [hx]
    · simp [e]
  · rw [if_neg h]
    simp only [getL_app]
    by_cases e : k' = k
    · subst e
      have : Dct.getL d.l k' = none := by simpa using h
      simp [this]
    · have : ¬ k = k' := fun z => e z.symm
      simp [e, this]
theorem Dcn.get_set (d : Dcn κ ν) (k k' : κ) (v : ν) : (d.set k v).get k' = if k' = k then some v else d.get k' := by
  have h := Dct.get_set (⟨d.l⟩ : Dct κ ν) k k' v
  unfold Dcn.set Dcn.has Dcn.get
  unfold Dct.set Dct.has Dct.get at h
  split
  · rename_i c
    rw [if_pos c] at h
    exact h
  · rename_i c
    rw [if_neg c] at h
    exact h
theorem Dct.set_len_has {d : Dct κ ν} {k : κ} (h : d.has k = true) (v : ν) : (d.set k v).l.length = d.l.length := by
  unfold Dct.set
  rw [if_pos h]
  simp
end
end
end PU
namespace PU
open VI
inductive Xt where
  | leaf (k : Pk)
  | ap (c : Nm) (l : List Xt)
inductive Den (g : PRow → Option Int) : Int → Xt → Prop
  | leaf {k : Pk} {n : Int} : g (k, none) = some n → Den g n (.leaf k)
  | ap {c : Nm} {ns : List Int} {ts : List Xt} {n : Int} : g (.n c, some ⟨ns⟩) = some n → ns.length = ts.length → (∀ (i : Nat) (m : Int) (t : Xt), ns[i]? = some m → ts[i]? = some t → Den g m t) → Den g n (.ap c ts)
structure TOk (g : PRow → Option Int) (len : Nat) : Prop where
  inj : ∀ k k' n, g k = some n → g k' = some n → k = k'
  lt : ∀ k n, g k = some n → 0 ≤ n ∧ n < len
theorem Den.mono {g g' : PRow → Option Int} (h : ∀ k n, g k = some n → g' k = some n) {n : Int} {t : Xt} (d : Den g n t) : Den g' n t := by
  induction d with
  | leaf e => exact .leaf (h _ _ e)
  | ap e hl _ ih => exact .ap (h _ _ e) hl ih
theorem Den.inj {g : PRow → Option Int} {n : Int} {t : Xt} (d : Den g n t) : ∀ {m : Int}, Den g m t → n = m := by
  induction d with
  | leaf e =>
    intro m d'
    cases d' with
    | leaf e' => rw [e] at e'; exact Option.some.inj e'
  | @ap c0 ns ts n0 e hl _ ih =>
    intro m d'
    cases d' with
    | @ap _ ns' _ _ e' hl' h' =>
      have : ns = ns' := by
        apply List.ext_getElem?
        intro i
        by_cases hi : i < ts.length
        · have hi1 : i < ns.length := by omega
          have hi2 : i < ns'.length := by omega
          have a := ih i ns[i] ts[i] (by simp [hi1]) (by simp [hi]) (h' i ns'[i] ts[i] (by simp [hi2]) (by simp [hi]))
          simp [hi1, hi2, a]
        · rw [List.getElem?_eq_none (by omega), List.getElem?_eq_none (by omega)]
      subst this
      rw [e] at e'
      exact Option.some.inj e'
theorem Den.lt {g : PRow → Option Int} {len : Nat} (ok : TOk g len) {n : Int} {t : Xt} (d : Den g n t) : 0 ≤ n ∧ n < len := by
  cases d with
  | leaf e => exact ok.lt _ _ e
  | ap e _ _ => exact ok.lt _ _ e
theorem TOk.put {g : PRow → Option Int} {len : Nat} (ok : TOk g len) {k : PRow} (h : g k = none) : TOk (fun k' => if k' = k then some (len : Int) else g k') (len + 1) := by
  refine ⟨fun a b n ha hb => ?_, fun a n ha => ?_⟩
  · by_cases h1 : a = k
    · by_cases h2 : b = k
      · rw [h1, h2]
      · simp only [h1, if_true, Option.some.injEq] at ha
        simp only [h2, if_false] at hb
        have := (ok.lt _ _ hb).2
        omega
    · simp only [h1, if_false] at ha
      by_cases h2 : b = k
      · simp only [h2, if_true, Option.some.injEq] at hb
        have := (ok.lt _ _ ha).2
        omega
      · simp only [h2, if_false] at hb
        exact ok.inj a b n ha hb
  · by_cases h1 : a = k
    · simp only [h1, if_true, Option.some.injEq] at ha
      omega
    · simp only [h1, if_false] at ha
      have := ok.lt _ _ ha
      omega
abbrev Env := Nm → Xt
def made (rd : Nm → List Nm) (σ : Env) (c : Nm) : Xt := .ap c ((rd c).map σ)
open Classical in
noncomputable def stepT (rd : Nm → List Nm) (σ : Env) (c : Nm) : Env := fun x => if x = c then made rd σ c else σ x
structure NowOk (g : PRow → Option Int) (now : Dct Nm Int) (cells : List Nm) (σ : Env) : Prop where
  den : ∀ c ∈ cells, ∃ n, now.get c = some n ∧ Den g n (σ c)
  len : now.l.length ≤ cells.length
theorem NowOk.mono {g g' : PRow → Option Int} {now : Dct Nm Int} {cells : List Nm} {σ : Env} (h : ∀ k n, g k = some n → g' k = some n) (o : NowOk g now cells σ) : NowOk g' now cells σ := ⟨fun c hc => by
  obtain ⟨n, e, d⟩ := o.den c hc
  exact ⟨n, e, d.mono h⟩, o.len⟩
theorem has_some {κ ν : Type} [DecidableEq κ] {d : Dct κ ν} {k : κ} {x : ν} (h : d.get k = some x) : d.has k = true := by
  unfold Dct.has
  rw [h]
  rfl
theorem NowOk.set {g : PRow → Option Int} {now : Dct Nm Int} {cells : List Nm} {σ : Env} (o : NowOk g now cells σ) {rd : Nm → List Nm} {c : Nm} (hc : c ∈ cells) {n : Int} (d : Den g n (made rd σ c)) : NowOk g (now.set c n) cells (stepT rd σ c) := by
  refine ⟨fun x hx => ?_, ?_⟩
  · rw [Dct.get_set]
    unfold stepT
    by_cases h : x = c
    · subst h
      exact ⟨n, by simp, by simpa using d⟩
    · obtain ⟨m, e, d2⟩ := o.den x hx
      exact ⟨m, by simp [h, e], by simpa [h] using d2⟩
  · obtain ⟨m, e, _⟩ := o.den c hc
    rw [Dct.set_len_has (has_some e)]
    exact o.len
def numsOf (now : Dct Nm Int) (l : List Nm) : List Int := l.map fun c => (now.get c).getD 0
theorem Den.made {g : PRow → Option Int} {now : Dct Nm Int} {cells : List Nm} {σ : Env} (o : NowOk g now cells σ) {rd : Nm → List Nm} {c : Nm} (hl : ∀ x ∈ rd c, x ∈ cells) {n : Int} (h : g (.n c, some ⟨numsOf now (rd c)⟩) = some n) : Den g n (made rd σ c) := by
  refine .ap h (by simp [numsOf]) fun i m t hm ht => ?_
  unfold numsOf at hm
  rw [List.getElem?_map] at hm ht
  obtain ⟨x, hx, e⟩ := map_some hm
  rw [hx] at ht
  cases ht
  obtain ⟨n', e', d⟩ := o.den x (hl x (List.mem_of_getElem? hx))
  rw [e'] at e
  cases e
  exact d
end PU
namespace VK
open VI PU
def Grow (g g' : PRow → Option Int) : Prop := ∀ k n, g k = some n → g' k = some n
theorem Grow.refl (g : PRow → Option Int) : Grow g g := fun _ _ h => h
theorem Grow.trans {a b c : PRow → Option Int} (h : Grow a b) (h' : Grow b c) : Grow a c := fun k n e => h' k n (h k n e)
def goodN (x : Nm) : Prop := 1 ≤ x.l.length ∧ x.l.length ≤ 12 ∧ ∀ c ∈ x.l, 97 ≤ c ∧ c ≤ 122
theorem Grow.den {g g' : PRow → Option Int} (h : Grow g g') {n : Int} {t : Xt} (d : Den g n t) : Den g' n t := d.mono h
end VK
namespace VK
open VI
def c_law_pile : List Sm := [.asg [2] (.con (.int 0)), .ite (.pr .lt [.var 1, .pr .len [.var 0]]) [.asg [2] (.pr .ix [.var 0, .var 1])] [], .asg [3] (.pr .mod [.pr .int1 [.var 2], .pr .mul [.pr .mul [.pr .pow [.con (.int 10), .con (.int 50)], .pr .pow [.con (.int 10), .con (.int 50)]], .pr .pow [.con (.int 10), .con (.int 50)]]]), .ret (.lst [.pr .mul [.var 3, .pr .int1 [.pr .ge [.pr .abs [.var 2], .pr .pow [.con (.int 10), .con (.int 18)]]]], .pr .mod [.pr .int1 [.var 2], .con (.int 2147483647)], .pr .mul [.con (.int 97), .var 1]])]
def c_law_mixed : List Sm := [.asg [2] (.pr .mod [.pr .add [.pr .add [.pr .mul [.pr .mod [.pr .int1 [.var 0], .con (.int 2147483647)], .con (.int 48271)], .pr .mul [.var 1, .con (.int 69621)]], .con (.int 11)], .con (.int 2147483647)]), .asg [2] (.pr .mod [.pr .mul [.var 2, .var 2], .con (.int 2147483629)]), .ret (.pr .fdiv [.pr .mod [.pr .mul [.var 2, .var 2], .con (.int 2147483587)], .con (.int 64)])]
def c_law_take : List Sm := [.ite (.pr .eq [.pr .ix [.var 0, .con (.int 0)], .con (.int 0)]) [.setS .setl 0 (.con (.int 2)) (.pr .add [.pr .ix [.var 0, .con (.int 2)], .con (.int 1)]), .ret (.pr .mod [.call 2 [.pr .ix [.var 0, .con (.int 1)], .pr .ix [.var 0, .con (.int 2)]], .var 1])] [], .asg [2] (.pr .mod [.pr .int1 [.pr .ix [.var 0, .con (.int 0)]], .var 1]), .setS .setl 0 (.con (.int 0)) (.pr .fdiv [.pr .ix [.var 0, .con (.int 0)], .var 1]), .ret (.mov 2)]
def c_law_names : List Sm := [.asg [2] (.con (.str "abcdefghijklmnopqrstuvwxyz")), .asg [3] (.joi "" (.lc [10] .rng1 [.call 3 [.io 0, .con (.int 12)]] [] (.pr .ix [.var 2, .call 3 [.io 0, .con (.int 26)]]))), .asg [4] (.call 3 [.io 0, .pr .add [.pr .len [.var 3], .con (.int 1)]]), .asg [5] (.call 3 [.io 0, .con (.int 26)]), .asg [6] (.pr .ix [.lst [.con (.int 1), .con (.int 3), .con (.int 5), .con (.int 7), .con (.int 9), .con (.int 11), .con (.int 15), .con (.int 17), .con (.int 19), .con (.int 21), .con (.int 23), .con (.int 25)], .call 3 [.io 0, .con (.int 12)]]), .ite (.and (.pr .eq [.pr .mod [.var 5, .con (.int 4)], .con (.int 3)]) (.pr .lt [.var 1, .con (.int 13)])) [.asg [9] (.lst [.con (.str "a"), .con (.str "b"), .con (.str "ab"), .con (.str "c"), .con (.str "ba"), .con (.str "abc"), .con (.str "aa"), .con (.str "bc"), .con (.str "aab"), .con (.str "ca"), .con (.str "cab"), .con (.str "d"), .con (.str "abd"), .con (.str "bca"), .con (.str "e")]), .ret (.slc (.pr .add [.slc (.var 9) [.pr .add [.pr .fdiv [.var 5, .con (.int 4)], .pr .mod [.var 6, .con (.int 4)]]] [], .var 9]) [] [.frv 1])] [], .asg [7] (.pr .mul [.con (.str "a"), .pr .int1 [.pr .lt [.pr .len [.var 3], .con (.int 11)]]]), .asg [8] (.lc [10] .rng1 [.frv 1] [] (.pr .add [.pr .add [.slc (.var 3) [] [.frv 4], .pr .ix [.var 2, .pr .mod [.pr .add [.var 5, .pr .mul [.var 6, .var 10]], .con (.int 26)]]], .slc (.var 3) [.frv 4] []])), .ret (.lc [10, 11] .enum [.frv 8] [] (.pr .add [.var 11, .pr .mul [.var 7, .pr .mod [.var 10, .con (.int 2)]]]))]
def c_law_classes : List Sm := [.asg [1] (.lst [.pr (.isx ["InvalidShape", "UnknownCell", "InvalidRow", "InvalidWalk", "InvalidNumber", "InvalidText", "Ring", "TooMany", "NothingToUndo"] ["InvalidShape"]) [.var 0], .pr (.isx ["InvalidShape", "UnknownCell", "InvalidRow", "InvalidWalk", "InvalidNumber", "InvalidText", "Ring", "TooMany", "NothingToUndo"] ["UnknownCell"]) [.var 0], .pr (.isx ["InvalidShape", "UnknownCell", "InvalidRow", "InvalidWalk", "InvalidNumber", "InvalidText", "Ring", "TooMany", "NothingToUndo"] ["InvalidRow"]) [.var 0]]), .asg [1] (.pr .add [.var 1, .lst [.pr (.isx ["InvalidShape", "UnknownCell", "InvalidRow", "InvalidWalk", "InvalidNumber", "InvalidText", "Ring", "TooMany", "NothingToUndo"] ["InvalidWalk"]) [.var 0], .pr (.isx ["InvalidShape", "UnknownCell", "InvalidRow", "InvalidWalk", "InvalidNumber", "InvalidText", "Ring", "TooMany", "NothingToUndo"] ["InvalidNumber"]) [.var 0], .pr (.isx ["InvalidShape", "UnknownCell", "InvalidRow", "InvalidWalk", "InvalidNumber", "InvalidText", "Ring", "TooMany", "NothingToUndo"] ["InvalidText"]) [.var 0]]]), .asg [1] (.pr .add [.var 1, .lst [.pr (.isx ["InvalidShape", "UnknownCell", "InvalidRow", "InvalidWalk", "InvalidNumber", "InvalidText", "Ring", "TooMany", "NothingToUndo"] ["Ring"]) [.var 0], .pr (.isx ["InvalidShape", "UnknownCell", "InvalidRow", "InvalidWalk", "InvalidNumber", "InvalidText", "Ring", "TooMany", "NothingToUndo"] ["TooMany"]) [.var 0], .pr (.isx ["InvalidShape", "UnknownCell", "InvalidRow", "InvalidWalk", "InvalidNumber", "InvalidText", "Ring", "TooMany", "NothingToUndo"] ["NothingToUndo"]) [.var 0]]]), .ret (.lst [.frv 1, .pr (.isx ["InvalidShape", "UnknownCell", "InvalidRow", "InvalidWalk", "InvalidNumber", "InvalidText", "Ring", "TooMany", "NothingToUndo"] ["InvalidShape", "UnknownCell", "InvalidRow", "InvalidWalk", "InvalidNumber", "InvalidText", "Ring", "TooMany", "NothingToUndo"]) [.var 0], .pr (.isx ["InvalidShape", "UnknownCell", "InvalidRow", "InvalidWalk", "InvalidNumber", "InvalidText", "Ring", "TooMany", "NothingToUndo"] ["InvalidShape", "UnknownCell", "InvalidRow", "InvalidWalk", "InvalidNumber", "InvalidText", "Ring", "TooMany", "NothingToUndo"]) [.var 0]])]
def c_law_ring_right_3 : List Sm := [.asg [1] (.pr .list [.var 0]), .asg [2] (.mkr "Ring" "cells" (.var 1)), .ex (.mt .app (.var 1) [.con (.str "x")]), .ite (.pr .ne [.fxq ["Ring"] (.var 2) "cells", .var 0]) [.ret (.con (.bl false))] [], .ex (.apX ["Ring"] 2 "cells" (.con (.str "y"))), .ret (.pr .eq [.var 1, .pr .add [.var 0, .lst [.con (.str "x")]]])]
def c_law_68 : List Sm := [.for [1] .rng1 [.con (.int 3)] [.asg [2] (.call 1 [.frv 0, .frv 1]), .asg [3] (.call 4 [.io 2, .pr .add [.con (.int 1), .call 3 [.io 2, .con (.int 9)]]]), .asg [4] (.pr .ix [.lst [.pr .ix [.var 3, .con (.int 0)], .con .non, .call 3 [.io 2, .pr .pow [.con (.int 10), .con (.int 9)]], .lst [.pr .ix [.var 3, .pr .neg [.con (.int 1)]]], .con (.bl true)], .call 3 [.io 2, .con (.int 5)]]), .par2 7 8 (.call 3 [.io 2, .con (.int 99)]) (.pr .ix [.lst [.con .non, .call 3 [.io 2, .con (.int 2000)]], .call 3 [.io 2, .con (.int 2)]]), .asg [5] (.lst [.mkx "InvalidShape" ["cell"] false [.frv 4], .mkx "UnknownCell" ["name"] false [.frv 4], .mkx "InvalidRow" ["index"] false [.frv 7], .mkx "InvalidWalk" ["index"] false [.frv 8], .mkx "InvalidNumber" ["number"] false [.frv 4]]), .asg [5] (.pr .add [.var 5, .lst [.mkx "InvalidText" ["line", "column"] false [.frv 7, .frv 8], .mkr "Ring" "cells" (.var 3), .mkx "TooMany" ["limit"] false [.frv 7], .mkx "NothingToUndo" [] false []]]), .for [9, 10] .enum [.frv 5] [.ite (.pr .ne [.call 352 [.frv 10], .lst [.lc [11] .rng1 [.con (.int 9)] [] (.pr .eq [.var 11, .var 9]), .con (.bl true), .con (.bl true)]]) [.ret (.con (.bl false))] []], .asg [6] (.lst [.fxq ["InvalidShape"] (.pr .ix [.var 5, .con (.int 0)]) "cell", .fxq ["UnknownCell"] (.pr .ix [.var 5, .con (.int 1)]) "name", .fxq ["InvalidRow", "InvalidWalk"] (.pr .ix [.var 5, .con (.int 2)]) "index", .fxq ["InvalidRow", "InvalidWalk"] (.pr .ix [.var 5, .con (.int 3)]) "index", .fxq ["InvalidNumber"] (.pr .ix [.var 5, .con (.int 4)]) "number"]), .ite (.pr .ne [.var 6, .lst [.frv 4, .frv 4, .frv 7, .frv 8, .frv 4]]) [.ret (.con (.bl false))] [], .ite (.pr .ne [.lst [.fxq ["InvalidText"] (.pr .ix [.var 5, .con (.int 5)]) "line", .fxq ["InvalidText"] (.pr .ix [.var 5, .con (.int 5)]) "column", .fxq ["Ring"] (.pr .ix [.var 5, .con (.int 6)]) "cells", .fxq ["TooMany"] (.pr .ix [.var 5, .con (.int 7)]) "limit"], .lst [.frv 7, .frv 8, .frv 3, .frv 7]]) [.ret (.con (.bl false))] [], .ite (.not (.call 356 [.frv 3])) [.ret (.con (.bl false))] []], .ret (.con (.bl true))]
end VK
namespace PU
open VI
open L2 (Key)
open Cod (enc)
section
variable {T : Tab} {Pn : List Nat} {S S1 S2 S3 : SS} {A A1 A2 : List SA} {h h1 h2 : List Obj} {V α β γ δ α' β' γ' ω ω' ρ : Type}
theorem v_someE [Cod β] {e : Ex} {c : Option α} {g : α → β} {k : Kd} {S' : α → SS} (h : EV T e S c k g S') : EV T e S c k (fun x => some (g x)) S' := fun s hs a ha => h s hs a ha
end
instance : Room (Option (List Nm)) := ⟨by decide⟩
instance : Room (Option Nm) := ⟨by decide⟩
instance : Room (List Int) := ⟨by decide⟩
end PU
namespace PU
open VI
open L2 (Key)
open Cod (enc)
structure Any where
  d : D
  h : allF d = true
  nr : noRef d = true
instance : Cod Any := ⟨Any.d, Any.h⟩
instance : NoR Any := ⟨Any.nr⟩
def Any.of {α : Type} [Cod α] [NoR α] (x : α) : Any := ⟨enc x, Cod.fz x, NoR.nr x⟩
section
variable {T : Tab} {S S1 : SS} {α β γ δ α' : Type}
theorem v_mapE [Cod β] [Cod γ] {e : Ex} {c : Option α} {g : α → β} {k : Kd} {S' : α → SS} {f : β → γ} (hf : ∀ x, (enc (f x) : D) = enc x) (h : EV T e S c k g S') : EV T e S c k (fun a => f (g a)) S' := fun s hs a ha => by
  obtain ⟨d, s1, e1, w, t⟩ := h s hs a ha
  exact ⟨d, s1, e1, by rw [hf]; exact w, t⟩
theorem toPy_hd {x d : D} (h : hd .a x d) : toPy d = toPy x := by
  rcases h with rfl | rfl
  · rfl
  · exact toPy_ow x
def eqE [Cod α] [Cod β] (x : α) (y : β) : Option Bool := eqD (enc x) (enc y)
def neE [Cod α] [Cod β] (x : α) (y : β) : Option Bool := (eqE x y).map fun k => !k
theorem o_neE [Cod α] [Cod β] : O2 .ne .f (fun (x : α) (y : β) => neE x y) := fun x y z d1 d2 h h1 h2 => by
  obtain ⟨k, hk, e⟩ := map_some h
  subst e
  refine ⟨.bl (!k), ?_, rfl⟩
  show (eqD d1 d2).map (fun k => D.bl (!k)) = _
  have e : eqD d1 d2 = eqD (enc x) (enc y) := by
    unfold eqD
    rw [toPy_hd h1, toPy_hd h2]
  rw [e]
  have hk : eqD (enc x) (enc y) = some k := hk
  rw [hk]
  rfl
def isxA (al yes : List PySem.Str) (x : Any) : Option Bool := match x.d with
  | .exc C _ _ => if C ∈ al then some (decide (C ∈ yes)) else none
  | _ => none
theorem o_isx {al yes : List PySem.Str} : O1 (.isx al yes) .f (isxA al yes) := fun x z d1 h h1 => by
  obtain ⟨d, g, nr⟩ := x
  unfold isxA at h
  dsimp only at h
  split at h
  · rename_i C fn ds
    split at h
    · rename_i hC
      cases h
      refine ⟨.bl (decide (C ∈ yes)), ?_, rfl⟩
      have e : ∃ ds', d1 = .exc C fn ds' := by
        rcases h1 with h1 | h1
        · exact ⟨ds, h1⟩
        · exact ⟨_, h1⟩
      obtain ⟨ds', rfl⟩ := e
      show fn1 (isxD al yes) [D.exc C fn ds'] = _
      simp only [fn1, isxD, if_pos hC]
    · cases h
  · cases h
def toAny (d : D) : Option Any := if h : allF d = true ∧ noRef d = true then some ⟨d, h.1, h.2⟩ else none
theorem toAny_some {d : D} {x : Any} (h : toAny d = some x) : x.d = d := by
  unfold toAny at h
  split at h
  · cases h; rfl
  · cases h
def fxA (al : List PySem.Str) (f : PySem.Str) (x : Any) : Option Any := (fxD al f x.d).bind toAny
theorem look_map0 {g : D → D} : ∀ (ks : List PySem.Str) (ds : List D) (f : PySem.Str), look ks (ds.map g) f = (look ks ds f).map g
  | [], ds, f => by cases ds <;> rfl
  | k :: ks, [], f => rfl
  | k :: ks, d :: ds, f => by
    simp only [List.map_cons, look]
    split
    · rfl
    · exact look_map0 ks ds f
theorem fxA_some {al : List PySem.Str} {f : PySem.Str} {x : Any} {y : Any} (h : fxA al f x = some y) : ∃ C fn ds, x.d = .exc C fn ds ∧ C ∈ al ∧ look fn ds f = some y.d := by
  obtain ⟨d, hd, hy⟩ := bind_some h
  have := toAny_some hy
  subst this
  obtain ⟨x, g, nr⟩ := x
  unfold fxD at hd
  dsimp only at hd
  split at hd
  · rename_i C fn ds
    split at hd
    · rename_i hC
      exact ⟨C, fn, ds, rfl, hC, hd⟩
    · cases hd
  · cases hd
theorem q_fxqF {al : List PySem.Str} {f : PySem.Str} {q : Ex} {c : Option Any} (h : EQ T q S .f c) : EQ T (.fxq al q f) S .f (c.bind (fxA al f)) := fun s hs a ha => by
  obtain ⟨x, hx, hf⟩ := bind_some ha
  obtain ⟨d, e, w⟩ := h s hs x hx
  obtain ⟨C, fn, ds, e1, hC, hl⟩ := fxA_some hf
  refine ⟨a.d, ?_, rfl⟩
  have w : d = x.d := w
  subst w
  simp only [evq, e, Option.bind_some, e1, fxD, if_pos hC, hl]
theorem q_fxqA {al : List PySem.Str} {f : PySem.Str} {q : Ex} {k : Kd} {c : Option Any} (h : EQ T q S k c) : EQ T (.fxq al q f) S .a (c.bind (fxA al f)) := fun s hs a ha => by
  obtain ⟨x, hx, hf⟩ := bind_some ha
  obtain ⟨d, e, w⟩ := h s hs x hx
  obtain ⟨C, fn, ds, e1, hC, hl⟩ := fxA_some hf
  rcases hd_a w with w | w
  · have w : d = x.d := w
    subst w
    exact ⟨a.d, by simp only [evq, e, Option.bind_some, e1, fxD, if_pos hC, hl], .inl rfl⟩
  · have w : d = ow x.d := w
    rw [e1] at w
    subst w
    refine ⟨ow0 a.d, by simp only [evq, e, Option.bind_some, ow, fxD, if_pos hC, look_map0, hl, Option.map_some], ?_⟩
    show ow0 a.d = a.d ∨ ow0 a.d = ow a.d
    cases a.d <;> first | exact .inr rfl | exact .inl rfl
theorem v_fxq [Cod β] {al : List PySem.Str} {f : PySem.Str} {q : Ex} {c : Option β} (h : EQ T (.fxq al q f) S .f c) : EC T (.fxq al q f) S c .f S := v_of (fun s => by simp only [ev]; rfl) h
theorem allFs_rev : ∀ {ds : List D}, allFs ds = true → allFs ds.reverse = true := fun {ds} h => by
  have a : ∀ l : List D, allFs l = l.all allF := fun l => by
    induction l with
    | nil => rfl
    | cons d l ih => simp only [allFs, List.all_cons, ih]
  rw [a] at h ⊢
  rw [List.all_reverse]
  exact h
theorem allFs_any (l : List Any) : allFs (l.map Any.d) = true := by
  induction l with
  | nil => rfl
  | cons x l ih => simp only [List.map_cons, allFs, x.h, ih, Bool.and_self]
theorem noRefs_rev : ∀ {ds : List D}, noRefs ds = true → noRefs ds.reverse = true := fun {ds} h => by
  have a : ∀ l : List D, noRefs l = l.all noRef := fun l => by
    induction l with
    | nil => rfl
    | cons d l ih => simp only [noRefs, List.all_cons, ih]
  rw [a] at h ⊢
  rw [List.all_reverse]
  exact h
theorem noRefs_any (l : List Any) : noRefs (l.map Any.d) = true := by
  induction l with
  | nil => rfl
  | cons x l ih => simp only [List.map_cons, noRefs, x.nr, ih, Bool.and_self]
def excA (C : PySem.Str) (fn : List PySem.Str) (l : List Any) : Any := ⟨.exc C fn.reverse (l.map Any.d).reverse, by
  show allFs _ = true
  exact allFs_rev (allFs_any l), by
  show noRefs _ = true
  exact noRefs_rev (noRefs_any l)⟩
theorem mkx_go {C : PySem.Str} {fn : List PySem.Str} {as : List Ex} {s s1 : VS} {l : List Any} (e : evs T as s = some (.ok (l.map enc) s1)) (hn : l.length = fn.length) (h2 : fn.length ≤ 2) : ev T (.mkx C fn false as) s = some (.ok (excA C fn l).d s1) := by
  simp only [ev, b_app]
  rw [e, b_ok]
  have : mkXD fn false (l.map enc) = some (l.map enc) := by
    unfold mkXD
    rw [if_neg (by decide), if_pos ⟨by rw [List.length_map, hn], h2⟩]
  rw [this]
  rfl
theorem v_mkx {C : PySem.Str} {fn : List PySem.Str} {as : List Ex} {c : Option (List Any)} (h : EVL T as S c S1) (hn : as.length = fn.length) (h2 : fn.length ≤ 2) : EC T (.mkx C fn false as) S (c.bind fun l => some (excA C fn l)) .f S1 := fun s hs x hx => by
  obtain ⟨l, hl, e⟩ := bind_some hx
  cases e
  obtain ⟨hn', s1, e1, t⟩ := h s hs l hl
  exact ⟨_, s1, mkx_go e1 (hn'.trans hn) h2, rfl, t⟩
theorem v_mkr [Cod β] [NoR β] {C f : PySem.Str} {q : Ex} {c : Option (List β)} {k : Kd} (h : EQ T q S k c) : EC T (.mkr C f q) S (c.bind fun l => some (excA C [f] [Any.of l])) .o S := fun s hs x hx => by
  obtain ⟨l, hl, e0⟩ := bind_some hx
  cases e0
  obtain ⟨d, e1, w⟩ := h s hs l hl
  obtain ⟨o, rfl⟩ := hd_l w
  refine ⟨.exc C [f] [.lst true (l.map enc)], s, ?_, rfl, hs⟩
  have q2 : allFs (l.map enc) = true := by
    have q : allF (enc l) = true := Cod.fz l
    have : allF (enc l) = (!false && allFs (l.map enc)) := rfl
    rw [this] at q
    simpa using q
  simp only [ev, e1]
  rw [if_pos q2]
def apA [Cod α] (al : List PySem.Str) (f : PySem.Str) (y : α) (x : Any) : Option Any := match x.d with
  | .exc C [g] [.lst false xs] => if (C ∈ al ∧ g = f) ∧ xs.length < lim then toAny (.exc C [g] [.lst false (xs ++ [enc y])]) else none
  | _ => none
theorem v_apX [Cod α] {al : List PySem.Str} {i : Nat} {f : PySem.Str} {a : Ex} {x : Any} {c : Option α} (h : lk S.A i = .v .o (enc x)) (ha : EQ T a S .f c) : EV T (.apX al i f a) S (c.bind fun y => apA al f y x) .f (fun _ => ()) (fun x' => S.st i (.v .o (enc x'))) := fun s hs r hr => by
  obtain ⟨y, hy, hr⟩ := bind_some hr
  obtain ⟨d0, e0, w0⟩ := hs.get h
  obtain ⟨d, e1, w⟩ := ha s hs y hy
  have w : d = enc y := w
  subst w
  obtain ⟨xd, g, nr⟩ := x
  unfold apA at hr
  dsimp only at hr
  split at hr
  · rename_i C g' xs _
    split at hr
    · rename_i hc
      have hx := toAny_some hr
      have w0 : d0 = .exc C [g'] [.lst true xs] := w0
      subst w0
      refine ⟨.non, ⟨s.ρ.set i (some (.exc C [g'] [.lst true (xs ++ [enc y])])), s.μ⟩, ?_, rfl, hs.set ⟨_, rfl, ?_⟩⟩
      · simp only [ev, e0, e1]
        rw [if_pos ⟨hc.1, Cod.fz y, hc.2⟩]
      · show _ = ow r.d
        rw [hx]
        rfl
    · cases hr
  · cases hr
end
end PU
namespace VK
open VI PU
open L2 (Key)
@[irreducible] def p_law_pile (v0 : Scr) (v1 : Int) : Option (List Int) :=
  let u1 : Int := (0 : Int);
  (if (decide (v1 < (List.length (Scr.l v0) : Int))) then
  (at' (Scr.l v0) v1).bind fun x4 =>
    some x4
  else
  some u1).bind fun (w3 : Int) =>
  ((((powI (10 : Int) (50 : Int)).bind fun x5 => (powI (10 : Int) (50 : Int)).bind fun x6 => mulI x5 x6).bind fun x7 => (powI (10 : Int) (50 : Int)).bind fun x8 => mulI x7 x8).bind fun x9 => modI w3 x9).bind fun x10 =>
  (((((powI (10 : Int) (18 : Int)).bind fun x11 => some (decide (x11 ≤ (absI w3)))).bind fun x12 => some (b2i x12)).bind fun x13 => mulI x10 x13).bind fun x14 => ((modI w3 (2147483647 : Int)).bind fun x15 => ((mulI (97 : Int) v1).bind fun x16 => some (x16 :: [])).bind fun l17 => some (x15 :: l17)).bind fun l18 => some (x14 :: l18)).bind fun x19 => some x19
def S_law_pile (m : List D → List RO → Option CR) : Prop := ∀ (v0 : Scr) (v1 : Int), FS m [Cod.enc v0, Cod.enc v1] [] (p_law_pile v0 v1) .o (fun r : (List Int) => r) (fun r : (List Int) => [.e, .e]) (fun _ => [])
theorem z_law_pile (T : Tab)  : S_law_pile (runF T 2 4 [] c_law_pile) := by
  intro v0 v1
  exact FS.eq (fs_of (g := (fun r : (List Int) => r)) (k := .o) (P := (fun r : (List Int) => ⟨[.j, .j, .j, .j], []⟩)) rfl (hin_f (hin_f hin_nil))
  (xs_w (x_asg1 rfl (v_con (q_int _))) (fun (u1 : Int) => ⟨[.v .f (Cod.enc (v0 : Scr)), .v .f (Cod.enc (v1 : Int)), .v .f (Cod.enc (u1 : Int)), .j], []⟩) (fun _ => ⟨(.cons le_r (.cons le_r (.cons le_r (.cons le_j .nil)))), rfl⟩) (fun u1 =>
  (xs_n (x_if (I := (fun (w3 : Int) => ⟨[.j, .v .f (Cod.enc (v1 : Int)), .v .f (Cod.enc (w3 : Int)), .j], []⟩)) (v_pr rfl (q_2 o_lt (q_var rfl) (q_1 o_lenC (q_var rfl)))) (fun t2 => (xs_w (x_asg1 rfl (v_pr rfl (q_2 o_ixC (q_var rfl) (q_var rfl)))) (fun x4 => ⟨[.j, .v .f (Cod.enc (v1 : Int)), .v .f (Cod.enc (x4 : Int)), .j], []⟩) (fun _ => ⟨(.cons le_j (.cons le_r (.cons le_r (.cons le_j .nil)))), rfl⟩) (fun x4 =>
  (xs_e (w := x4) (en ⟨(.cons le_j (.cons le_r (.cons le_r (.cons le_j .nil)))), rfl⟩))))) (fun t2 => (xs_e (w := u1) (en ⟨(.cons le_j (.cons le_r (.cons le_r (.cons le_j .nil)))), rfl⟩)))) (fun w3 =>
  (xs_w (x_asg1 rfl (b_xx o_modI rfl rfl rfl (v_pr rfl (q_1 o_int1 (q_var rfl))) (b_xx o_mulI rfl rfl rfl (b_xx o_mulI rfl rfl rfl (v_pr rfl (q_2 o_powI (q_int _) (q_int _))) (v_pr rfl (q_2 o_powI (q_int _) (q_int _)))) (v_pr rfl (q_2 o_powI (q_int _) (q_int _)))))) (fun x10 => ⟨[.j, .v .f (Cod.enc (v1 : Int)), .v .f (Cod.enc (w3 : Int)), .v .f (Cod.enc (x10 : Int))], []⟩) (fun _ => ⟨(.cons le_j (.cons le_r (.cons le_r (.cons le_r .nil)))), rfl⟩) (fun x10 =>
  (xs_ret (F := (fun x19 => x19)) (v_lst (l_cons (b_vx o_mulI rfl rfl rfl (v_pr rfl (q_1 o_int1B (q_2 o_ge (q_1 o_abs (q_var rfl)) (q_2 o_powI (q_int _) (q_int _))))) rfl) (l_cons (v_pr rfl (q_2 o_modI (q_1 o_int1 (q_var rfl)) (q_int _))) (l_cons (b_xv o_mulI rfl rfl (v_con (q_int _)) rfl) l_nil))) (by decide)) (fun _ _ _ h1 h2 => rr kr h1 h2 rfl ⟨(.cons le_j (.cons le_j (.cons le_j (.cons le_j .nil)))), rfl⟩))))))))) (by delta p_law_pile; simp only [bs, ms, ids]; all_goals rfl)
@[irreducible] def p_law_mixed (v0 : Int) (v1 : Int) : Option Int :=
  (((((modI v0 (2147483647 : Int)).bind fun x1 => mulI x1 (48271 : Int)).bind fun x2 => (mulI v1 (69621 : Int)).bind fun x3 => some (x2 + x3)).bind fun x4 => some (x4 + (11 : Int))).bind fun x5 => modI x5 (2147483647 : Int)).bind fun x6 =>
  ((mulI x6 x6).bind fun x7 => modI x7 (2147483629 : Int)).bind fun x8 =>
  (((mulI x8 x8).bind fun x9 => modI x9 (2147483587 : Int)).bind fun x10 => fdivI x10 (64 : Int)).bind fun x11 => some x11
def S_law_mixed (m : List D → List RO → Option CR) : Prop := ∀ (v0 : Int) (v1 : Int), FS m [Cod.enc v0, Cod.enc v1] [] (p_law_mixed v0 v1) .f (fun r : Int => r) (fun r : Int => [.e, .e]) (fun _ => [])
theorem z_law_mixed (T : Tab)  : S_law_mixed (runF T 2 3 [] c_law_mixed) := by
  intro v0 v1
  exact FS.eq (fs_of (g := (fun r : Int => r)) (k := .f) (P := (fun r : Int => ⟨[.j, .j, .j], []⟩)) rfl (hin_f (hin_f hin_nil))
  (xs_w (x_asg1 rfl (b_xx o_modI rfl rfl rfl (b_xx o_addI rfl rfl rfl (b_xx o_addI rfl rfl rfl (b_xx o_mulI rfl rfl rfl (v_pr rfl (q_2 o_modI (q_1 o_int1 (q_var rfl)) (q_int _))) (v_con (q_int _))) (b_vx o_mulI rfl rfl rfl (v_con (q_int _)) rfl)) (v_con (q_int _))) (v_con (q_int _)))) (fun x6 => ⟨[.j, .j, .v .f (Cod.enc (x6 : Int))], []⟩) (fun _ => ⟨(.cons le_j (.cons le_j (.cons le_r .nil))), rfl⟩) (fun x6 =>
  (xs_w (x_asg1 rfl (b_xx o_modI rfl rfl rfl (b_vv o_mulI rfl rfl rfl) (v_con (q_int _)))) (fun x8 => ⟨[.j, .j, .v .f (Cod.enc (x8 : Int))], []⟩) (fun _ => ⟨(.cons le_j (.cons le_j (.cons le_r .nil))), rfl⟩) (fun x8 =>
  (xs_ret (F := (fun x11 => x11)) (b_xx o_fdivI rfl rfl rfl (b_xx o_modI rfl rfl rfl (b_vv o_mulI rfl rfl rfl) (v_con (q_int _))) (v_con (q_int _))) (fun _ _ _ h1 h2 => rr kr h1 h2 rfl ⟨(.cons le_j (.cons le_j (.cons le_j .nil))), rfl⟩))))))) (by delta p_law_mixed; simp only [bs, ms, ids]; all_goals rfl)
@[irreducible] def p_law_take (v0 : (List Int)) (v1 : Int) : Option (Int × (List Int)) :=
  ((at' v0 (0 : Int)).bind fun x1 => some (eqB x1 (0 : Int))).bind fun x2 =>
  if x2 then
  (((at' v0 (2 : Int)).bind fun x3 => some (x3 + (1 : Int))).bind fun x4 => setl x4 (2 : Int) v0).bind fun x5 =>
    ((((at' x5.2 (1 : Int)).bind fun x7 => ((at' x5.2 (2 : Int)).bind fun x8 => some (x8, ())).bind fun y12 => some (x7, y12)).bind fun a9 => p_law_mixed a9.1 a9.2.1).bind fun x10 => modI x10 v1).bind fun x13 => some (x13, x5.2)
  else
  (((at' v0 (0 : Int)).bind fun x14 => some x14).bind fun x15 => modI x15 v1).bind fun x16 =>
    (((at' v0 (0 : Int)).bind fun x17 => fdivI x17 v1).bind fun x18 => setl x18 (0 : Int) v0).bind fun x19 =>
    some (x16, x19.2)
def S_law_take (m : List D → List RO → Option CR) : Prop := ∀ (v0 : (List Int)) (v1 : Int), FS m [ow (Cod.enc v0), Cod.enc v1] [] (p_law_take v0 v1) .f (fun r : (Int × (List Int)) => r.1) (fun r : (Int × (List Int)) => [.v .o (Cod.enc r.2), .e]) (fun _ => [])
theorem z_law_take (T : Tab) (hc_law_mixed : S_law_mixed (T.call 2)) : S_law_take (runF T 2 3 [0] c_law_take) := by
  intro v0 v1
  exact FS.eq (fs_of (g := (fun r : (Int × (List Int)) => r.1)) (k := .f) (P := (fun r : (Int × (List Int)) => ⟨[.v .o (Cod.enc r.2), .j, .j], []⟩)) rfl (hin_o (hin_f hin_nil))
  (xs_ite (v_pr rfl (q_2 o_eq (q_2 o_ixL (q_var rfl) (q_int _)) (q_int _))) (fun x2 =>
  (xs_w (x_setS (v_mt2c rfl (mk_l (by decide) (by decide)) (b_xx o_addI rfl rfl rfl (v_pr rfl (q_2 o_ixL (q_var rfl) (q_int _))) (v_con (q_int _))) (v_con (q_int _)) rfl (fun y z r h => setl_m _ y z r h))) (fun x5 => ⟨[.v .o (Cod.enc (x5.2 : (List Int))), .v .f (Cod.enc (v1 : Int)), .j], []⟩) (fun _ => ⟨(.cons le_r (.cons le_r (.cons le_j .nil))), rfl⟩) (fun x5 =>
  (xs_ret (F := (fun x13 => (x13, x5.2))) (b_xv o_modI rfl rfl (v_call1 (g_v rfl (v_pr rfl (q_2 o_ixL (q_var rfl) (q_int _))) (g_v rfl (v_pr rfl (q_2 o_ixL (q_var rfl) (q_int _))) g_nil)) (fun _ => rfl) (fun _ => (nrs_cons (NoR.nr _) (nrs_cons (NoR.nr _) nrs_nil))) (fun _ => hc_law_mixed _ _) (fun _ _ => rfl) (fun _ => rfl)) rfl) (fun _ _ _ h1 h2 => rr kr h1 h2 rfl ⟨(.cons le_r (.cons le_j (.cons le_j .nil))), rfl⟩))))) (fun x2 =>
  (xs_w (x_asg1 rfl (v_pr rfl (q_2 o_modI (q_1 o_int1 (q_2 o_ixL (q_var rfl) (q_int _))) (q_var rfl)))) (fun x16 => ⟨[.v .o (Cod.enc (v0 : (List Int))), .v .f (Cod.enc (v1 : Int)), .v .f (Cod.enc (x16 : Int))], []⟩) (fun _ => ⟨(.cons le_r (.cons le_r (.cons le_r .nil))), rfl⟩) (fun x16 =>
  (xs_w (x_setS (v_mt2c rfl (mk_l (by decide) (by decide)) (v_pr rfl (q_2 o_fdivI (q_2 o_ixL (q_var rfl) (q_int _)) (q_var rfl))) (v_con (q_int _)) rfl (fun y z r h => setl_m _ y z r h))) (fun x19 => ⟨[.v .o (Cod.enc (x19.2 : (List Int))), .j, .v .f (Cod.enc (x16 : Int))], []⟩) (fun _ => ⟨(.cons le_r (.cons le_j (.cons le_r .nil))), rfl⟩) (fun x19 =>
  (xs_ret (F := (fun q => (q, x19.2))) (v_mov rfl) (fun _ _ _ h1 h2 => rr kr h1 h2 rfl ⟨(.cons le_r (.cons le_j (.cons le_j .nil))), rfl⟩))))))))) (by delta p_law_take; simp only [bs, ms, ids]; all_goals rfl)
@[irreducible] def p_law_names (v0 : (List Int)) (v1 : Int) : Option ((List Nm) × (List Int)) :=
  let u1 : Nm := (nm "abcdefghijklmnopqrstuvwxyz");
  ((((p_law_take v0 (12 : Int)).bind fun x3 => (rngG x3.1).bind fun z5 => some (x3, z5)).bind fun x4 => few x4.2 (mpW (fun (x6 : Int) (w7 : (List Int)) => ((p_law_take w7 (26 : Int)).bind fun x9 => (sgn u1 x9.1).map fun z11 => (x9, z11)).bind fun x10 => some (x10.2, x10.1.2)) x4.2 x4.1.2)).bind fun x12 => (joinS (nm "") x12.1).map fun z14 => (x12, z14)).bind fun x13 =>
  ((((lenS x13.2).bind fun x15 => some (x15 + (1 : Int))).bind fun x16 => some (x16, ())).bind fun a17 => p_law_take x13.1.2 a17.1).bind fun x18 =>
  (p_law_take x18.2 (26 : Int)).bind fun x21 =>
  ((p_law_take x21.2 (12 : Int)).bind fun x23 => (at' ([(1 : Int), (3 : Int), (5 : Int), (7 : Int), (9 : Int), (11 : Int), (15 : Int), (17 : Int), (19 : Int), (21 : Int), (23 : Int), (25 : Int)]) x23.1).map fun z25 => ([(1 : Int), (3 : Int), (5 : Int), (7 : Int), (9 : Int), (11 : Int), (15 : Int), (17 : Int), (19 : Int), (21 : Int), (23 : Int), (25 : Int)], x23, z25)).bind fun x24 =>
  (((modI x21.1 (4 : Int)).bind fun x26 => some (eqB x26 (3 : Int))).bind fun x27 => if x27 then some (decide (v1 < (13 : Int))) else some false).bind fun x28 =>
  if x28 then
  let u29 : (List Nm) := [(nm "a"), (nm "b"), (nm "ab"), (nm "c"), (nm "ba"), (nm "abc"), (nm "aa"), (nm "bc"), (nm "aab"), (nm "ca"), (nm "cab"), (nm "d"), (nm "abd"), (nm "bca"), (nm "e")];
    ((((((fdivI x21.1 (4 : Int)).bind fun x30 => (modI x24.2.2 (4 : Int)).bind fun x31 => some (x30 + x31)).bind fun x32 => some (some x32)).bind fun x33 => some (cutL u29 x33 none)).bind fun x34 => addL x34 u29).bind fun x35 => some (cutL x35 none (some v1))).bind fun x36 => some (x36, x24.2.1.2)
  else
  ((((lenS x13.2).bind fun x37 => some (decide (x37 < (11 : Int)))).bind fun x38 => some (b2i x38)).bind fun x39 => mulS (nm "a") x39).bind fun x40 =>
    ((rngG v1).bind fun x41 => few x41 (mpO (fun (x42 : Int) => ((cutN x13.2 none (some x18.1)).bind fun x44 => ((((mulI x24.2.2 x42).bind fun x45 => some (x21.1 + x45)).bind fun x46 => modI x46 (26 : Int)).bind fun x47 => sgn u1 x47).bind fun x48 => addS x44 x48).bind fun x49 => (cutN x13.2 (some x18.1) none).bind fun x50 => addS x49 x50) x41)).bind fun x53 =>
    (few (enumL x53) (mpO (fun (x54 : (Int × Nm)) => ((modI x54.1 (2 : Int)).bind fun x56 => mulS x40 x56).bind fun x57 => addS x54.2 x57) (enumL x53))).bind fun x60 => some (x60, x24.2.1.2)
def S_law_names (m : List D → List RO → Option CR) : Prop := ∀ (v0 : (List Int)) (v1 : Int), FS m [ow (Cod.enc v0), Cod.enc v1] [] (p_law_names v0 v1) .o (fun r : ((List Nm) × (List Int)) => r.1) (fun r : ((List Nm) × (List Int)) => [.v .o (Cod.enc r.2), .e]) (fun _ => [])
theorem z_law_names (T : Tab) (hc_law_take : S_law_take (T.call 3)) : S_law_names (runF T 2 12 [0] c_law_names) := by
  intro v0 v1
  exact FS.eq (fs_of (g := (fun r : ((List Nm) × (List Int)) => r.1)) (k := .o) (P := (fun r : ((List Nm) × (List Int)) => ⟨[.v .o (Cod.enc r.2), .j, .j, .j, .j, .j, .j, .j, .j, .j, .j, .j], []⟩)) rfl (hin_o (hin_f hin_nil))
  (xs_w (x_asg1 rfl (v_con (q_str "abcdefghijklmnopqrstuvwxyz" (by decide +kernel)))) (fun (u1 : Nm) => ⟨[.v .o (Cod.enc (v0 : (List Int))), .v .f (Cod.enc (v1 : Int)), .v .f (Cod.enc (u1 : Nm)), .j, .j, .j, .j, .j, .j, .j, .j, .j], []⟩) (fun _ => ⟨(.cons le_r (.cons le_r (.cons le_r (.cons le_j (.cons le_j (.cons le_j (.cons le_j (.cons le_j (.cons le_j (.cons le_j (.cons le_j (.cons le_j .nil)))))))))))), rfl⟩) (fun u1 =>
  (xs_w (x_asg1 rfl (v_joiE (h := by decide +kernel) (v_mpW (I := (fun (w7 : (List Int)) => ⟨[.v .o (Cod.enc (w7 : (List Int))), .v .f (Cod.enc (v1 : Int)), .v .f (Cod.enc (u1 : Nm)), .j, .j, .j, .j, .j, .j, .j, .j, .j], []⟩)) (w0 := fun x4 => x4.1.2) (s_rng1E (v_callc (g_io rfl (g_v rfl (v_con (q_int _)) g_nil)) (fun _ => rfl) rfl (fun _ => (nrs_cons (nr_ow (NoR.nr _)) (nrs_cons (NoR.nr _) nrs_nil))) (fun _ => hc_law_take _ _) (fun _ => rfl))) (bt1 10) (fun _ => ⟨(.cons le_r (.cons le_r (.cons le_r (.cons le_j (.cons le_j (.cons le_j (.cons le_j (.cons le_j (.cons le_j (.cons le_j (.cons le_j (.cons le_j .nil)))))))))))), rfl⟩) (fun x6 w7 => (v_leE (S3 := (fun (w7 : (List Int)) => ⟨[.v .o (Cod.enc (w7 : (List Int))), .v .f (Cod.enc (v1 : Int)), .v .f (Cod.enc (u1 : Nm)), .j, .j, .j, .j, .j, .j, .j, .j, .j], []⟩)) (w := fun x10 => x10.1.2) (b_vxE o_ixS rfl rfl rfl (v_callc (g_io rfl (g_v rfl (v_con (q_int _)) g_nil)) (fun _ => rfl) rfl (fun _ => (nrs_cons (nr_ow (NoR.nr _)) (nrs_cons (NoR.nr _) nrs_nil))) (fun _ => hc_law_take _ _) (fun _ => rfl)) (fun _ => rfl)) (fun _ => ⟨(.cons le_r (.cons le_r (.cons le_r (.cons le_j (.cons le_j (.cons le_j (.cons le_j (.cons le_j (.cons le_j (.cons le_j (.cons le_j (.cons le_j .nil)))))))))))), rfl⟩))) (fun _ _ _ => Le.refl _)))) (fun x13 => ⟨[.v .o (Cod.enc (x13.1.2 : (List Int))), .v .f (Cod.enc (v1 : Int)), .v .f (Cod.enc (u1 : Nm)), .v .f (Cod.enc (x13.2 : Nm)), .j, .j, .j, .j, .j, .j, .j, .j], []⟩) (fun _ => ⟨(.cons le_r (.cons le_r (.cons le_r (.cons le_r (.cons le_j (.cons le_j (.cons le_j (.cons le_j (.cons le_j (.cons le_j (.cons le_j (.cons le_j .nil)))))))))))), rfl⟩) (fun x13 =>
  (xs_w (x_asg1 rfl (v_callc (g_io rfl (g_v rfl (b_xx o_addI rfl rfl rfl (v_pr rfl (q_1 o_lenS (q_var rfl))) (v_con (q_int _))) g_nil)) (fun _ => rfl) rfl (fun _ => (nrs_cons (nr_ow (NoR.nr _)) (nrs_cons (NoR.nr _) nrs_nil))) (fun _ => hc_law_take _ _) (fun _ => rfl))) (fun x18 => ⟨[.v .o (Cod.enc (x18.2 : (List Int))), .v .f (Cod.enc (v1 : Int)), .v .f (Cod.enc (u1 : Nm)), .v .f (Cod.enc (x13.2 : Nm)), .v .f (Cod.enc (x18.1 : Int)), .j, .j, .j, .j, .j, .j, .j], []⟩) (fun _ => ⟨(.cons le_r (.cons le_r (.cons le_r (.cons le_r (.cons le_r (.cons le_j (.cons le_j (.cons le_j (.cons le_j (.cons le_j (.cons le_j (.cons le_j .nil)))))))))))), rfl⟩) (fun x18 =>
  (xs_w (x_asg1 rfl (v_callc (g_io rfl (g_v rfl (v_con (q_int _)) g_nil)) (fun _ => rfl) rfl (fun _ => (nrs_cons (nr_ow (NoR.nr _)) (nrs_cons (NoR.nr _) nrs_nil))) (fun _ => hc_law_take _ _) (fun _ => rfl))) (fun x21 => ⟨[.v .o (Cod.enc (x21.2 : (List Int))), .v .f (Cod.enc (v1 : Int)), .v .f (Cod.enc (u1 : Nm)), .v .f (Cod.enc (x13.2 : Nm)), .v .f (Cod.enc (x18.1 : Int)), .v .f (Cod.enc (x21.1 : Int)), .j, .j, .j, .j, .j, .j], []⟩) (fun _ => ⟨(.cons le_r (.cons le_r (.cons le_r (.cons le_r (.cons le_r (.cons le_r (.cons le_j (.cons le_j (.cons le_j (.cons le_j (.cons le_j (.cons le_j .nil)))))))))))), rfl⟩) (fun x21 =>
  (xs_w (x_asg1 rfl (b_xxE o_ixL rfl rfl rfl (v_lst (l_cons (v_con (q_int _)) (l_cons (v_con (q_int _)) (l_cons (v_con (q_int _)) (l_cons (v_con (q_int _)) (l_cons (v_con (q_int _)) (l_cons (v_con (q_int _)) (l_cons (v_con (q_int _)) (l_cons (v_con (q_int _)) (l_cons (v_con (q_int _)) (l_cons (v_con (q_int _)) (l_cons (v_con (q_int _)) (l_cons (v_con (q_int _)) l_nil)))))))))))) (by decide)) (fun _ => (v_callc (g_io rfl (g_v rfl (v_con (q_int _)) g_nil)) (fun _ => rfl) rfl (fun _ => (nrs_cons (nr_ow (NoR.nr _)) (nrs_cons (NoR.nr _) nrs_nil))) (fun _ => hc_law_take _ _) (fun _ => rfl))))) (fun x24 => ⟨[.v .o (Cod.enc (x24.2.1.2 : (List Int))), .v .f (Cod.enc (v1 : Int)), .v .f (Cod.enc (u1 : Nm)), .v .f (Cod.enc (x13.2 : Nm)), .v .f (Cod.enc (x18.1 : Int)), .v .f (Cod.enc (x21.1 : Int)), .v .f (Cod.enc (x24.2.2 : Int)), .j, .j, .j, .j, .j], []⟩) (fun _ => ⟨(.cons le_r (.cons le_r (.cons le_r (.cons le_r (.cons le_r (.cons le_r (.cons le_r (.cons le_j (.cons le_j (.cons le_j (.cons le_j (.cons le_j .nil)))))))))))), rfl⟩) (fun x24 =>
  (xs_ite (n_and (v_pr rfl (q_2 o_eq (q_2 o_modI (q_var rfl) (q_int _)) (q_int _))) (v_pr rfl (q_2 o_lt (q_var rfl) (q_int _))) (Le.refl _) (Le.refl _)) (fun x28 =>
  (xs_w (x_asg1 rfl (v_lst (l_cons (v_con (q_str "a" (by decide +kernel))) (l_cons (v_con (q_str "b" (by decide +kernel))) (l_cons (v_con (q_str "ab" (by decide +kernel))) (l_cons (v_con (q_str "c" (by decide +kernel))) (l_cons (v_con (q_str "ba" (by decide +kernel))) (l_cons (v_con (q_str "abc" (by decide +kernel))) (l_cons (v_con (q_str "aa" (by decide +kernel))) (l_cons (v_con (q_str "bc" (by decide +kernel))) (l_cons (v_con (q_str "aab" (by decide +kernel))) (l_cons (v_con (q_str "ca" (by decide +kernel))) (l_cons (v_con (q_str "cab" (by decide +kernel))) (l_cons (v_con (q_str "d" (by decide +kernel))) (l_cons (v_con (q_str "abd" (by decide +kernel))) (l_cons (v_con (q_str "bca" (by decide +kernel))) (l_cons (v_con (q_str "e" (by decide +kernel))) l_nil))))))))))))))) (by decide))) (fun (u29 : (List Nm)) => ⟨[.v .o (Cod.enc (x24.2.1.2 : (List Int))), .v .f (Cod.enc (v1 : Int)), .j, .j, .j, .v .f (Cod.enc (x21.1 : Int)), .v .f (Cod.enc (x24.2.2 : Int)), .j, .j, .v .o (Cod.enc (u29 : (List Nm))), .j, .j], []⟩) (fun _ => ⟨(.cons le_r (.cons le_r (.cons le_j (.cons le_j (.cons le_j (.cons le_r (.cons le_r (.cons le_j (.cons le_j (.cons le_r (.cons le_j (.cons le_j .nil)))))))))))), rfl⟩) (fun u29 =>
  (xs_ret (F := (fun x36 => (x36, x24.2.1.2))) (v_slx rfl (b_xv o_addL rfl rfl (v_slv rfl (p_1 (b_xx o_addI rfl rfl rfl (v_pr rfl (q_2 o_fdivI (q_var rfl) (q_int _))) (v_pr rfl (q_2 o_modI (q_var rfl) (q_int _))))) p_0 rfl) rfl) p_0 (p_1 (v_frf rfl))) (fun _ _ _ h1 h2 => rr kr h1 h2 rfl ⟨(.cons le_r (.cons le_j (.cons le_j (.cons le_j (.cons le_j (.cons le_j (.cons le_j (.cons le_j (.cons le_j (.cons le_j (.cons le_j (.cons le_j .nil)))))))))))), rfl⟩))))) (fun x28 =>
  (xs_w (x_asg1 rfl (b_xx o_mulS rfl rfl rfl (v_con (q_str "a" (by decide +kernel))) (v_pr rfl (q_1 o_int1B (q_2 o_lt (q_1 o_lenS (q_var rfl)) (q_int _)))))) (fun x40 => ⟨[.v .o (Cod.enc (x24.2.1.2 : (List Int))), .v .f (Cod.enc (v1 : Int)), .v .f (Cod.enc (u1 : Nm)), .v .f (Cod.enc (x13.2 : Nm)), .v .f (Cod.enc (x18.1 : Int)), .v .f (Cod.enc (x21.1 : Int)), .v .f (Cod.enc (x24.2.2 : Int)), .v .f (Cod.enc (x40 : Nm)), .j, .j, .j, .j], []⟩) (fun _ => ⟨(.cons le_r (.cons le_r (.cons le_r (.cons le_r (.cons le_r (.cons le_r (.cons le_r (.cons le_r (.cons le_j (.cons le_j (.cons le_j (.cons le_j .nil)))))))))))), rfl⟩) (fun x40 =>
  (xs_w (x_asg1 rfl (v_lcc (v_mpO (I := fun _ => ⟨[.v .o (Cod.enc (x24.2.1.2 : (List Int))), .v .f (Cod.enc (v1 : Int)), .v .f (Cod.enc (u1 : Nm)), .v .f (Cod.enc (x13.2 : Nm)), .v .f (Cod.enc (x18.1 : Int)), .v .f (Cod.enc (x21.1 : Int)), .v .f (Cod.enc (x24.2.2 : Int)), .v .f (Cod.enc (x40 : Nm)), .j, .j, .j, .j], []⟩) (s_rng1 (v_frf rfl)) (bt1 10) (fun _ => ⟨(.cons le_r (.cons le_r (.cons le_r (.cons le_r (.cons le_r (.cons le_r (.cons le_r (.cons le_r (.cons le_j (.cons le_j (.cons le_j (.cons le_j .nil)))))))))))), rfl⟩) (fun _ x42 => (b_xx o_addS rfl rfl rfl (b_xx o_addS rfl rfl rfl (v_slvS rfl p_0 (p_1 (v_frf rfl)) rfl) (b_vx o_ixS rfl rfl rfl (b_xx o_modI rfl rfl rfl (b_vx o_addI rfl rfl rfl (b_vv o_mulI rfl rfl rfl) rfl) (v_con (q_int _))) rfl)) (v_slvS rfl (p_1 (v_frf rfl)) p_0 rfl))) (fun _ _ => ⟨(.cons le_r (.cons le_r (.cons le_r (.cons le_r (.cons le_r (.cons le_r (.cons le_r (.cons le_r (.cons le_j (.cons le_j (.cons le_j (.cons le_j .nil)))))))))))), rfl⟩)))) (fun x53 => ⟨[.v .o (Cod.enc (x24.2.1.2 : (List Int))), .j, .j, .j, .j, .j, .j, .v .f (Cod.enc (x40 : Nm)), .v .o (Cod.enc (x53 : (List Nm))), .j, .j, .j], []⟩) (fun _ => ⟨(.cons le_r (.cons le_j (.cons le_j (.cons le_j (.cons le_j (.cons le_j (.cons le_j (.cons le_r (.cons le_r (.cons le_j (.cons le_j (.cons le_j .nil)))))))))))), rfl⟩) (fun x53 =>
  (xs_ret (F := (fun x60 => (x60, x24.2.1.2))) (v_lcg (v_mpO (I := fun _ => ⟨[.v .o (Cod.enc (x24.2.1.2 : (List Int))), .j, .j, .j, .j, .j, .j, .v .f (Cod.enc (x40 : Nm)), .v .f (Cod.enc (x53 : (List Nm))), .j, .j, .j], []⟩) (s_enum (v_frv rfl)) (bt2 10 11) (fun _ => ⟨(.cons le_r (.cons le_j (.cons le_j (.cons le_j (.cons le_j (.cons le_j (.cons le_j (.cons le_r (.cons le_r (.cons le_j (.cons le_j (.cons le_j .nil)))))))))))), rfl⟩) (fun _ x54 => (b_vx o_addS rfl rfl rfl (b_vx o_mulS rfl rfl rfl (v_pr rfl (q_2 o_modI (q_var rfl) (q_int _))) rfl) rfl)) (fun _ _ => ⟨(.cons le_r (.cons le_j (.cons le_j (.cons le_j (.cons le_j (.cons le_j (.cons le_j (.cons le_r (.cons le_r (.cons le_j (.cons le_j (.cons le_j .nil)))))))))))), rfl⟩))) (fun _ _ _ h1 h2 => rr kr h1 h2 rfl ⟨(.cons le_r (.cons le_j (.cons le_j (.cons le_j (.cons le_j (.cons le_j (.cons le_j (.cons le_j (.cons le_j (.cons le_j (.cons le_j (.cons le_j .nil)))))))))))), rfl⟩))))))))))))))))))) (by delta p_law_names; simp only [bs, ms, ids]; all_goals rfl)
@[irreducible] def p_law_ring_right (v0 : (List Nm)) : Option Bool :=
  let u1 : (List Nm) := v0;
  let u2 : Any := (excA "Ring" ["cells"] [Any.of u1]);
  (app u1 (nm "x")).bind fun x3 =>
  ((fxA ["Ring"] "cells" u2).bind fun x4 => neE x4 v0).bind fun x5 =>
  if x5 then
  some false
  else
  (apA ["Ring"] "cells" (nm "y") u2).bind fun x6 =>
    ((addL v0 ([(nm "x")])).bind fun x7 => some (eqB x3.2 x7)).bind fun x8 => some x8
def S_law_ring_right (m : List D → List RO → Option CR) : Prop := ∀ (v0 : (List Nm)), FS m [Cod.enc v0] [] (p_law_ring_right v0) .f (fun r : Bool => r) (fun r : Bool => [.e]) (fun _ => [])
theorem z_law_ring_right (T : Tab)  : S_law_ring_right (runF T 1 3 [] c_law_ring_right_3) := by
  intro v0
  exact FS.eq (fs_of (g := (fun r : Bool => r)) (k := .f) (P := (fun r : Bool => ⟨[.j, .j, .j], []⟩)) rfl (hin_f hin_nil)
  (xs_w (x_asg1 rfl (u_v o_listL rfl rfl)) (fun (u1 : (List Nm)) => ⟨[.v .f (Cod.enc (v0 : (List Nm))), .v .o (Cod.enc (u1 : (List Nm))), .j], []⟩) (fun _ => ⟨(.cons le_r (.cons le_r (.cons le_j .nil))), rfl⟩) (fun u1 =>
  (xs_w (x_asg1 rfl (v_mkr (q_var rfl))) (fun (u2 : Any) => ⟨[.v .f (Cod.enc (v0 : (List Nm))), .v .o (Cod.enc (u1 : (List Nm))), .v .o (Cod.enc (u2 : Any))], []⟩) (fun _ => ⟨(.cons le_r (.cons le_r (.cons le_r .nil))), rfl⟩) (fun u2 =>
  (xs_w (x_e (v_mt1c rfl (mk_l (by decide) (by decide)) (v_con (q_str "x" (by decide +kernel))) rfl (fun y r h => app_m _ y r h))) (fun x3 => ⟨[.v .f (Cod.enc (v0 : (List Nm))), .v .o (Cod.enc (x3.2 : (List Nm))), .v .o (Cod.enc (u2 : Any))], []⟩) (fun _ => ⟨(.cons le_r (.cons le_r (.cons le_r .nil))), rfl⟩) (fun x3 =>
  (xs_ite (v_pr rfl (q_2 o_neE (q_fxqA (q_var rfl)) (q_var rfl))) (fun x5 =>
  (xs_ret (F := (fun q => q)) (v_con (q_bl _)) (fun _ _ _ h1 h2 => rr kr h1 h2 rfl ⟨(.cons le_j (.cons le_j (.cons le_j .nil))), rfl⟩))) (fun x5 =>
  (xs_w (x_e (v_apX rfl (q_str "y" (by decide +kernel)))) (fun x6 => ⟨[.v .f (Cod.enc (v0 : (List Nm))), .v .o (Cod.enc (x3.2 : (List Nm))), .j], []⟩) (fun _ => ⟨(.cons le_r (.cons le_r (.cons le_j .nil))), rfl⟩) (fun x6 =>
  (xs_ret (F := (fun x8 => x8)) (b_vx o_eq rfl rfl rfl (b_vx o_addL rfl rfl rfl (v_lst (l_cons (v_con (q_str "x" (by decide +kernel))) l_nil) (by decide)) rfl) rfl) (fun _ _ _ h1 h2 => rr kr h1 h2 rfl ⟨(.cons le_j (.cons le_j (.cons le_j .nil))), rfl⟩))))))))))))) (by delta p_law_ring_right; simp only [bs, ms, ids]; all_goals rfl)
@[irreducible] def p_law_classes (v0 : Any) : Option (List Any) :=
  ((isxA ["InvalidShape", "UnknownCell", "InvalidRow", "InvalidWalk", "InvalidNumber", "InvalidText", "Ring", "TooMany", "NothingToUndo"] ["InvalidShape"] v0).bind fun x1 => ((isxA ["InvalidShape", "UnknownCell", "InvalidRow", "InvalidWalk", "InvalidNumber", "InvalidText", "Ring", "TooMany", "NothingToUndo"] ["UnknownCell"] v0).bind fun x2 => ((isxA ["InvalidShape", "UnknownCell", "InvalidRow", "InvalidWalk", "InvalidNumber", "InvalidText", "Ring", "TooMany", "NothingToUndo"] ["InvalidRow"] v0).bind fun x3 => some (x3 :: [])).bind fun l4 => some (x2 :: l4)).bind fun l5 => some (x1 :: l5)).bind fun x6 =>
  (((isxA ["InvalidShape", "UnknownCell", "InvalidRow", "InvalidWalk", "InvalidNumber", "InvalidText", "Ring", "TooMany", "NothingToUndo"] ["InvalidWalk"] v0).bind fun x7 => ((isxA ["InvalidShape", "UnknownCell", "InvalidRow", "InvalidWalk", "InvalidNumber", "InvalidText", "Ring", "TooMany", "NothingToUndo"] ["InvalidNumber"] v0).bind fun x8 => ((isxA ["InvalidShape", "UnknownCell", "InvalidRow", "InvalidWalk", "InvalidNumber", "InvalidText", "Ring", "TooMany", "NothingToUndo"] ["InvalidText"] v0).bind fun x9 => some (x9 :: [])).bind fun l10 => some (x8 :: l10)).bind fun l11 => some (x7 :: l11)).bind fun x12 => addL x6 x12).bind fun x13 =>
  (((isxA ["InvalidShape", "UnknownCell", "InvalidRow", "InvalidWalk", "InvalidNumber", "InvalidText", "Ring", "TooMany", "NothingToUndo"] ["Ring"] v0).bind fun x14 => ((isxA ["InvalidShape", "UnknownCell", "InvalidRow", "InvalidWalk", "InvalidNumber", "InvalidText", "Ring", "TooMany", "NothingToUndo"] ["TooMany"] v0).bind fun x15 => ((isxA ["InvalidShape", "UnknownCell", "InvalidRow", "InvalidWalk", "InvalidNumber", "InvalidText", "Ring", "TooMany", "NothingToUndo"] ["NothingToUndo"] v0).bind fun x16 => some (x16 :: [])).bind fun l17 => some (x15 :: l17)).bind fun l18 => some (x14 :: l18)).bind fun x19 => addL x13 x19).bind fun x20 =>
  ((((isxA ["InvalidShape", "UnknownCell", "InvalidRow", "InvalidWalk", "InvalidNumber", "InvalidText", "Ring", "TooMany", "NothingToUndo"] ["InvalidShape", "UnknownCell", "InvalidRow", "InvalidWalk", "InvalidNumber", "InvalidText", "Ring", "TooMany", "NothingToUndo"] v0).bind fun x21 => some (Any.of x21)).bind fun x22 => (((isxA ["InvalidShape", "UnknownCell", "InvalidRow", "InvalidWalk", "InvalidNumber", "InvalidText", "Ring", "TooMany", "NothingToUndo"] ["InvalidShape", "UnknownCell", "InvalidRow", "InvalidWalk", "InvalidNumber", "InvalidText", "Ring", "TooMany", "NothingToUndo"] v0).bind fun x23 => some (Any.of x23)).bind fun x24 => some (x24 :: [])).bind fun l25 => some (x22 :: l25)).bind fun l26 => some ((Any.of x20) :: l26)).bind fun x27 => some x27
def S_law_classes (m : List D → List RO → Option CR) : Prop := ∀ (v0 : Any), FS m [Cod.enc v0] [] (p_law_classes v0) .o (fun r : (List Any) => r) (fun r : (List Any) => [.e]) (fun _ => [])
theorem z_law_classes (T : Tab)  : S_law_classes (runF T 1 2 [] c_law_classes) := by
  intro v0
  exact FS.eq (fs_of (g := (fun r : (List Any) => r)) (k := .o) (P := (fun r : (List Any) => ⟨[.j, .j], []⟩)) rfl (hin_f hin_nil)
  (xs_w (x_asg1 rfl (v_lst (l_cons (v_pr rfl (q_1 o_isx (q_var rfl))) (l_cons (v_pr rfl (q_1 o_isx (q_var rfl))) (l_cons (v_pr rfl (q_1 o_isx (q_var rfl))) l_nil))) (by decide))) (fun x6 => ⟨[.v .f (Cod.enc (v0 : Any)), .v .o (Cod.enc (x6 : (List Bool)))], []⟩) (fun _ => ⟨(.cons le_r (.cons le_r .nil)), rfl⟩) (fun x6 =>
  (xs_w (x_asg1 rfl (b_vx o_addL rfl rfl rfl (v_lst (l_cons (v_pr rfl (q_1 o_isx (q_var rfl))) (l_cons (v_pr rfl (q_1 o_isx (q_var rfl))) (l_cons (v_pr rfl (q_1 o_isx (q_var rfl))) l_nil))) (by decide)) rfl)) (fun x13 => ⟨[.v .f (Cod.enc (v0 : Any)), .v .o (Cod.enc (x13 : (List Bool)))], []⟩) (fun _ => ⟨(.cons le_r (.cons le_r .nil)), rfl⟩) (fun x13 =>
  (xs_w (x_asg1 rfl (b_vx o_addL rfl rfl rfl (v_lst (l_cons (v_pr rfl (q_1 o_isx (q_var rfl))) (l_cons (v_pr rfl (q_1 o_isx (q_var rfl))) (l_cons (v_pr rfl (q_1 o_isx (q_var rfl))) l_nil))) (by decide)) rfl)) (fun x20 => ⟨[.v .f (Cod.enc (v0 : Any)), .v .o (Cod.enc (x20 : (List Bool)))], []⟩) (fun _ => ⟨(.cons le_r (.cons le_r .nil)), rfl⟩) (fun x20 =>
  (xs_ret (F := (fun x27 => x27)) (v_lst (l_cons (β := Any) (v_map (f := (Any.of : (List Bool) → Any)) (fun _ => rfl) (v_frv rfl)) (l_cons (β := Any) (v_map (f := (Any.of : Bool → Any)) (fun _ => rfl) (v_pr rfl (q_1 o_isx (q_var rfl)))) (l_cons (β := Any) (v_map (f := (Any.of : Bool → Any)) (fun _ => rfl) (v_pr rfl (q_1 o_isx (q_var rfl)))) l_nil))) (by decide)) (fun _ _ _ h1 h2 => rr kr h1 h2 rfl ⟨(.cons le_j (.cons le_j .nil)), rfl⟩))))))))) (by delta p_law_classes; simp only [bs, ms, ids]; all_goals rfl)
@[irreducible] def p_law (v0 : Scr) : Option Bool :=
  ((rngG (3 : Int)).bind fun x1 => loopO (fun (x2 : Int) (w3 : Unit) =>
  (p_law_pile v0 x2).bind fun x5 =>
    ((((p_law_take x5 (9 : Int)).bind fun x7 => some ((1 : Int), x7, ((1 : Int) + x7.1))).bind fun x8 => some (x8, ())).bind fun a9 => (p_law_names a9.1.2.1.2 a9.1.2.2).bind fun x10 => some (a9, x10)).bind fun x11 =>
    ((((at' x11.2.1 (0 : Int)).bind fun x13 => some (Any.of x13)).bind fun x14 => (((((powI (10 : Int) (9 : Int)).bind fun x15 => some (x15, ())).bind fun a16 => p_law_take x11.2.2 a16.1).bind fun x17 => ((((at' x11.2.1 (-(1 : Int))).bind fun x19 => some (x19 :: [])).bind fun x20 => some (Any.of x20)).bind fun x21 => some (x21, ((Any.of true), ()))).bind fun y25 => some (x17, y25)).bind fun y26 => some ((Any.of ()), y26)).bind fun y27 => some (x14, y27)).bind fun x22 => (p_law_take x22.2.2.1.2 (5 : Int)).bind fun x29 => (at' ([x22.1, x22.2.1, (Any.of x22.2.2.1.1), x22.2.2.2.1, x22.2.2.2.2.1]) x29.1).map fun z31 => (x22, x29, z31)).bind fun x30 =>
    ((p_law_take x30.2.1.2 (99 : Int)).bind fun x33 => ((((p_law_take x33.2 (2000 : Int)).bind fun x35 => some (x35, ())).bind fun y38 => some ((none : Option Int), y38)).bind fun x36 => (p_law_take x36.2.1.2 (2 : Int)).bind fun x40 => (at' ([x36.1, (some x36.2.1.1)]) x40.1).map fun z42 => (x36, x40, z42)).bind fun x41 => some (x33, x41)).bind fun x43 =>
    let u44 : (List Any) := [(excA "InvalidShape" ["cell"] [x30.2.2]), (excA "UnknownCell" ["name"] [x30.2.2]), (excA "InvalidRow" ["index"] [(Any.of x43.1.1)]), (excA "InvalidWalk" ["index"] [(Any.of x43.2.2.2)]), (excA "InvalidNumber" ["number"] [x30.2.2])];
    (addL u44 ([(excA "InvalidText" ["line", "column"] [(Any.of x43.1.1), (Any.of x43.2.2.2)]), (excA "Ring" ["cells"] [Any.of x11.2.1]), (excA "TooMany" ["limit"] [(Any.of x43.1.1)]), (excA "NothingToUndo" [] [])])).bind fun x45 =>
    (loopO (fun (x46 : (Int × Any)) (w47 : Unit) =>
    ((p_law_classes x46.2).bind fun x49 => ((((rngG (9 : Int)).bind fun x50 => few x50 (mpO (fun (x51 : Int) => some (eqB x51 x46.1)) x50)).bind fun x54 => some (Any.of x54)).bind fun x55 => some (x55 :: ((Any.of true) :: ((Any.of true) :: [])))).bind fun x56 => neE x49 x56).bind fun x57 =>
      if x57 then
      some (Fo.rt false)
      else
      some (Fo.nx ())) (enumL x45) ()).bind (foB (fun (w58 : Unit) =>
    (((at' x45 (0 : Int)).bind fun x59 => fxA ["InvalidShape"] "cell" x59).bind fun x60 => (((at' x45 (1 : Int)).bind fun x61 => fxA ["UnknownCell"] "name" x61).bind fun x62 => (((at' x45 (2 : Int)).bind fun x63 => fxA ["InvalidRow", "InvalidWalk"] "index" x63).bind fun x64 => (((at' x45 (3 : Int)).bind fun x65 => fxA ["InvalidRow", "InvalidWalk"] "index" x65).bind fun x66 => (((at' x45 (4 : Int)).bind fun x67 => fxA ["InvalidNumber"] "number" x67).bind fun x68 => some (x68 :: [])).bind fun l69 => some (x66 :: l69)).bind fun l70 => some (x64 :: l70)).bind fun l71 => some (x62 :: l71)).bind fun l72 => some (x60 :: l72)).bind fun x73 =>
      (neE x73 ([x30.2.2, x30.2.2, (Any.of x43.1.1), (Any.of x43.2.2.2), x30.2.2])).bind fun x74 =>
      if x74 then
      some (Fo.rt false)
      else
      ((((at' x45 (5 : Int)).bind fun x75 => fxA ["InvalidText"] "line" x75).bind fun x76 => (((at' x45 (5 : Int)).bind fun x77 => fxA ["InvalidText"] "column" x77).bind fun x78 => (((at' x45 (6 : Int)).bind fun x79 => fxA ["Ring"] "cells" x79).bind fun x80 => (((at' x45 (7 : Int)).bind fun x81 => fxA ["TooMany"] "limit" x81).bind fun x82 => some (x82 :: [])).bind fun l83 => some (x80 :: l83)).bind fun l84 => some (x78 :: l84)).bind fun l85 => some (x76 :: l85)).bind fun x86 => neE x86 ([(Any.of x43.1.1), (Any.of x43.2.2.2), (Any.of x11.2.1), (Any.of x43.1.1)])).bind fun x87 =>
        if x87 then
        some (Fo.rt false)
        else
        ((p_law_ring_right x11.2.1).bind fun x89 => some (!x89)).bind fun x90 =>
          if x90 then
          some (Fo.rt false)
          else
          some (Fo.nx ())) Fo.rt)) x1 ()).bind (foB (fun (w91 : Unit) =>
  some true) (fun r => r))
def S_law (m : List D → List RO → Option CR) : Prop := ∀ (v0 : Scr), FS m [Cod.enc v0] [] (p_law v0) .f (fun r : Bool => r) (fun r : Bool => [.e]) (fun _ => [])
theorem z_law (T : Tab) (hc_law_pile : S_law_pile (T.call 1)) (hc_law_take : S_law_take (T.call 3)) (hc_law_names : S_law_names (T.call 4)) (hc_law_classes : S_law_classes (T.call 352)) (hc_law_ring_right : S_law_ring_right (T.call 356)) : S_law (runF T 1 12 [] c_law_68) := by
  intro v0
  exact FS.eq (fs_of (g := (fun r : Bool => r)) (k := .f) (P := (fun r : Bool => ⟨[.j, .j, .j, .j, .j, .j, .j, .j, .j, .j, .j, .j], []⟩)) rfl (hin_f hin_nil)
  (xs_m (F := fun r => r) (x_forM (R := (RV (ρ := Bool) .f (fun r : Bool => r) (fun r : Bool => ⟨[.j, .j, .j, .j, .j, .j, .j, .j, .j, .j, .j, .j], []⟩))) (I := (fun (w3 : Unit) => ⟨[.v .f (Cod.enc (v0 : Scr)), .j, .j, .j, .j, .j, .j, .j, .j, .j, .j, .j], []⟩)) (w0 := fun x1 => ()) rfl (s_rng1 (v_con (q_int _))) (bt1 1) (fun _ => ⟨(.cons le_r (.cons le_j (.cons le_j (.cons le_j (.cons le_j (.cons le_j (.cons le_j (.cons le_j (.cons le_j (.cons le_j (.cons le_j (.cons le_j .nil)))))))))))), rfl⟩) (fun x2 w3 =>
  (xs_w (x_asg1 rfl (v_call1 (g_v rfl (v_frf rfl) (g_v rfl (v_frf rfl) g_nil)) (fun _ => rfl) (fun _ => (nrs_cons (NoR.nr _) (nrs_cons (NoR.nr _) nrs_nil))) (fun _ => hc_law_pile _ _) (fun _ _ => rfl) (fun _ => rfl))) (fun x5 => ⟨[.v .f (Cod.enc (v0 : Scr)), .j, .v .o (Cod.enc (x5 : (List Int))), .j, .j, .j, .j, .j, .j, .j, .j, .j], []⟩) (fun _ => ⟨(.cons le_r (.cons le_j (.cons le_r (.cons le_j (.cons le_j (.cons le_j (.cons le_j (.cons le_j (.cons le_j (.cons le_j (.cons le_j (.cons le_j .nil)))))))))))), rfl⟩) (fun x5 =>
  (xs_w (x_asg1 rfl (v_call (g_io rfl (g_vE rfl (b_xxE o_addI rfl rfl rfl (v_con (q_int _)) (fun _ => (v_callc (g_io rfl (g_v rfl (v_con (q_int _)) g_nil)) (fun _ => rfl) rfl (fun _ => (nrs_cons (nr_ow (NoR.nr _)) (nrs_cons (NoR.nr _) nrs_nil))) (fun _ => hc_law_take _ _) (fun _ => rfl)))) (fun x8 => g_nil))) (fun _ => rfl) rfl (fun _ => (nrs_cons (nr_ow (NoR.nr _)) (nrs_cons (NoR.nr _) nrs_nil))) (fun _ => hc_law_names _ _) (fun _ => rfl))) (fun x11 => ⟨[.v .f (Cod.enc (v0 : Scr)), .j, .v .o (Cod.enc (x11.2.2 : (List Int))), .v .o (Cod.enc (x11.2.1 : (List Nm))), .j, .j, .j, .j, .j, .j, .j, .j], []⟩) (fun _ => ⟨(.cons le_r (.cons le_j (.cons le_r (.cons le_r (.cons le_j (.cons le_j (.cons le_j (.cons le_j (.cons le_j (.cons le_j (.cons le_j (.cons le_j .nil)))))))))))), rfl⟩) (fun x11 =>
  (xs_w (x_asg1 rfl (b_xxE o_ixL rfl rfl rfl (v_lstE (lE_cons (β := Any) (v_map (f := (Any.of : Nm → Any)) (fun _ => rfl) (v_pr rfl (q_2 o_ixL (q_var rfl) (q_int _)))) (fun x14 => (lE_cons (β := Any) (v_map (f := (Any.of : Unit → Any)) (fun _ => rfl) (v_con q_unit)) (fun _ => (lE_cons (β := Any) (v_mapE (f := (Any.of : Int → Any)) (fun _ => rfl) (v_callc (g_io rfl (g_v rfl (v_pr rfl (q_2 o_powI (q_int _) (q_int _))) g_nil)) (fun _ => rfl) rfl (fun _ => (nrs_cons (nr_ow (NoR.nr _)) (nrs_cons (NoR.nr _) nrs_nil))) (fun _ => hc_law_take _ _) (fun _ => rfl))) (fun x17 => (lE_cons (β := Any) (v_map (f := (Any.of : (List Nm) → Any)) (fun _ => rfl) (v_lst (l_cons (v_pr rfl (q_2 o_ixL (q_var rfl) (q_1 o_neg (q_int _)))) l_nil) (by decide))) (fun x21 => (lE_cons (β := Any) (v_map (f := (Any.of : Bool → Any)) (fun _ => rfl) (v_con (q_bl _))) (fun _ => (lE_nil (β := Any)))))))))))) (by decide)) (fun x22 => (v_callc (g_io rfl (g_v rfl (v_con (q_int _)) g_nil)) (fun _ => rfl) rfl (fun _ => (nrs_cons (nr_ow (NoR.nr _)) (nrs_cons (NoR.nr _) nrs_nil))) (fun _ => hc_law_take _ _) (fun _ => rfl))))) (fun x30 => ⟨[.v .f (Cod.enc (v0 : Scr)), .j, .v .o (Cod.enc (x30.2.1.2 : (List Int))), .v .o (Cod.enc (x11.2.1 : (List Nm))), .v .f (Cod.enc (x30.2.2 : Any)), .j, .j, .j, .j, .j, .j, .j], []⟩) (fun _ => ⟨(.cons le_r (.cons le_j (.cons le_r (.cons le_r (.cons le_r (.cons le_j (.cons le_j (.cons le_j (.cons le_j (.cons le_j (.cons le_j (.cons le_j .nil)))))))))))), rfl⟩) (fun x30 =>
  (xs_w (x_par2 rfl rfl (v_callc (g_io rfl (g_v rfl (v_con (q_int _)) g_nil)) (fun _ => rfl) rfl (fun _ => (nrs_cons (nr_ow (NoR.nr _)) (nrs_cons (NoR.nr _) nrs_nil))) (fun _ => hc_law_take _ _) (fun _ => rfl)) (fun x33 => (b_xxE o_ixL rfl rfl rfl (v_lstE (lE_cons (β := (Option Int)) (v_con q_non) (fun _ => (lE_cons (β := (Option Int)) (v_someE (v_callc (g_io rfl (g_v rfl (v_con (q_int _)) g_nil)) (fun _ => rfl) rfl (fun _ => (nrs_cons (nr_ow (NoR.nr _)) (nrs_cons (NoR.nr _) nrs_nil))) (fun _ => hc_law_take _ _) (fun _ => rfl))) (fun x35 => (lE_nil (β := (Option Int))))))) (by decide)) (fun x36 => (v_callc (g_io rfl (g_v rfl (v_con (q_int _)) g_nil)) (fun _ => rfl) rfl (fun _ => (nrs_cons (nr_ow (NoR.nr _)) (nrs_cons (NoR.nr _) nrs_nil))) (fun _ => hc_law_take _ _) (fun _ => rfl)))))) (fun x43 => ⟨[.v .f (Cod.enc (v0 : Scr)), .j, .j, .v .o (Cod.enc (x11.2.1 : (List Nm))), .v .f (Cod.enc (x30.2.2 : Any)), .j, .j, .v .f (Cod.enc (x43.1.1 : Int)), .v .f (Cod.enc (x43.2.2.2 : (Option Int))), .j, .j, .j], []⟩) (fun _ => ⟨(.cons le_r (.cons le_j (.cons le_j (.cons le_r (.cons le_r (.cons le_j (.cons le_j (.cons le_r (.cons le_r (.cons le_j (.cons le_j (.cons le_j .nil)))))))))))), rfl⟩) (fun x43 =>
  (xs_w (x_asg1 rfl (v_lst (l_cons (v_mkx (l_cons (β := Any) (v_frf rfl) l_nil) rfl (by decide)) (l_cons (v_mkx (l_cons (β := Any) (v_frf rfl) l_nil) rfl (by decide)) (l_cons (v_mkx (l_cons (β := Any) (v_map (f := (Any.of : Int → Any)) (fun _ => rfl) (v_frf rfl)) l_nil) rfl (by decide)) (l_cons (v_mkx (l_cons (β := Any) (v_map (f := (Any.of : (Option Int) → Any)) (fun _ => rfl) (v_frf rfl)) l_nil) rfl (by decide)) (l_cons (v_mkx (l_cons (β := Any) (v_frf rfl) l_nil) rfl (by decide)) l_nil))))) (by decide))) (fun (u44 : (List Any)) => ⟨[.v .f (Cod.enc (v0 : Scr)), .j, .j, .v .o (Cod.enc (x11.2.1 : (List Nm))), .v .f (Cod.enc (x30.2.2 : Any)), .v .o (Cod.enc (u44 : (List Any))), .j, .v .f (Cod.enc (x43.1.1 : Int)), .v .f (Cod.enc (x43.2.2.2 : (Option Int))), .j, .j, .j], []⟩) (fun _ => ⟨(.cons le_r (.cons le_j (.cons le_j (.cons le_r (.cons le_r (.cons le_r (.cons le_j (.cons le_r (.cons le_r (.cons le_j (.cons le_j (.cons le_j .nil)))))))))))), rfl⟩) (fun u44 =>
  (xs_w (x_asg1 rfl (b_vx o_addL rfl rfl rfl (v_lst (l_cons (v_mkx (l_cons (β := Any) (v_map (f := (Any.of : Int → Any)) (fun _ => rfl) (v_frf rfl)) (l_cons (β := Any) (v_map (f := (Any.of : (Option Int) → Any)) (fun _ => rfl) (v_frf rfl)) l_nil)) rfl (by decide)) (l_cons (v_mkr (q_var rfl)) (l_cons (v_mkx (l_cons (β := Any) (v_map (f := (Any.of : Int → Any)) (fun _ => rfl) (v_frf rfl)) l_nil) rfl (by decide)) (l_cons (v_mkx (c := some ([] : List Any)) l_nil rfl (by decide)) l_nil)))) (by decide)) rfl)) (fun x45 => ⟨[.v .f (Cod.enc (v0 : Scr)), .j, .j, .v .o (Cod.enc (x11.2.1 : (List Nm))), .v .f (Cod.enc (x30.2.2 : Any)), .v .o (Cod.enc (x45 : (List Any))), .j, .v .f (Cod.enc (x43.1.1 : Int)), .v .f (Cod.enc (x43.2.2.2 : (Option Int))), .j, .j, .j], []⟩) (fun _ => ⟨(.cons le_r (.cons le_j (.cons le_j (.cons le_r (.cons le_r (.cons le_r (.cons le_j (.cons le_r (.cons le_r (.cons le_j (.cons le_j (.cons le_j .nil)))))))))))), rfl⟩) (fun x45 =>
  (xs_m (F := Fo.rt) (x_forM (R := (RV (ρ := Bool) .f (fun r : Bool => r) (fun r : Bool => ⟨[.j, .j, .j, .j, .j, .j, .j, .j, .j, .j, .j, .j], []⟩))) (I := (fun (w47 : Unit) => ⟨[.v .f (Cod.enc (v0 : Scr)), .j, .j, .v .o (Cod.enc (x11.2.1 : (List Nm))), .v .f (Cod.enc (x30.2.2 : Any)), .v .f (Cod.enc (x45 : (List Any))), .j, .v .f (Cod.enc (x43.1.1 : Int)), .v .f (Cod.enc (x43.2.2.2 : (Option Int))), .j, .j, .j], []⟩)) (w0 := fun _ => ()) rfl (s_enum (v_frv rfl)) (bt2 9 10) (fun _ => ⟨(.cons le_r (.cons le_j (.cons le_j (.cons le_r (.cons le_r (.cons le_r (.cons le_j (.cons le_r (.cons le_r (.cons le_j (.cons le_j (.cons le_j .nil)))))))))))), rfl⟩) (fun x46 w47 =>
  (xs_ite (b_xx o_neE rfl rfl rfl (v_call1 (g_v rfl (v_frf rfl) g_nil) (fun _ => rfl) (fun _ => (nrs_cons (NoR.nr _) nrs_nil)) (fun _ => hc_law_classes _) (fun _ _ => rfl) (fun _ => rfl)) (v_lst (l_cons (β := Any) (v_map (f := (Any.of : (List Bool) → Any)) (fun _ => rfl) (v_lcc (v_mpO (I := fun _ => ⟨[.v .f (Cod.enc (v0 : Scr)), .j, .j, .v .o (Cod.enc (x11.2.1 : (List Nm))), .v .f (Cod.enc (x30.2.2 : Any)), .v .f (Cod.enc (x45 : (List Any))), .j, .v .f (Cod.enc (x43.1.1 : Int)), .v .f (Cod.enc (x43.2.2.2 : (Option Int))), .v .f (Cod.enc (x46.1 : Int)), .v .f (Cod.enc (x46.2 : Any)), .j], []⟩) (s_rng1 (v_con (q_int _))) (bt1 11) (fun _ => ⟨(.cons le_r (.cons le_j (.cons le_j (.cons le_r (.cons le_r (.cons le_r (.cons le_j (.cons le_r (.cons le_r (.cons le_r (.cons le_r (.cons le_j .nil)))))))))))), rfl⟩) (fun _ x51 => (v_pr rfl (q_2 o_eq (q_var rfl) (q_var rfl)))) (fun _ _ => ⟨(.cons le_r (.cons le_j (.cons le_j (.cons le_r (.cons le_r (.cons le_r (.cons le_j (.cons le_r (.cons le_r (.cons le_r (.cons le_r (.cons le_j .nil)))))))))))), rfl⟩)))) (l_cons (β := Any) (v_map (f := (Any.of : Bool → Any)) (fun _ => rfl) (v_con (q_bl _))) (l_cons (β := Any) (v_map (f := (Any.of : Bool → Any)) (fun _ => rfl) (v_con (q_bl _))) l_nil))) (by decide))) (fun x57 =>
  (xs_ret (F := (fun q => Fo.rt q)) (v_con (q_bl _)) (fun _ _ _ h1 h2 => rl kr h1 h2 rfl ⟨(.cons le_j (.cons le_j (.cons le_j (.cons le_j (.cons le_j (.cons le_j (.cons le_j (.cons le_j (.cons le_j (.cons le_j (.cons le_j (.cons le_j .nil)))))))))))), rfl⟩))) (fun x57 =>
  (xs_e (w := Fo.nx ()) (el ⟨(.cons le_r (.cons le_j (.cons le_j (.cons le_r (.cons le_r (.cons le_r (.cons le_j (.cons le_r (.cons le_r (.cons le_j (.cons le_j (.cons le_j .nil)))))))))))), rfl⟩)))))) (fun w58 =>
  (xs_w (x_asg1 rfl (v_lst (l_cons (v_fxq (q_fxqF (q_2 o_ixL (q_var rfl) (q_int _)))) (l_cons (v_fxq (q_fxqF (q_2 o_ixL (q_var rfl) (q_int _)))) (l_cons (v_fxq (q_fxqF (q_2 o_ixL (q_var rfl) (q_int _)))) (l_cons (v_fxq (q_fxqF (q_2 o_ixL (q_var rfl) (q_int _)))) (l_cons (v_fxq (q_fxqF (q_2 o_ixL (q_var rfl) (q_int _)))) l_nil))))) (by decide))) (fun x73 => ⟨[.v .f (Cod.enc (v0 : Scr)), .j, .j, .v .o (Cod.enc (x11.2.1 : (List Nm))), .v .f (Cod.enc (x30.2.2 : Any)), .v .f (Cod.enc (x45 : (List Any))), .v .o (Cod.enc (x73 : (List Any))), .v .f (Cod.enc (x43.1.1 : Int)), .v .f (Cod.enc (x43.2.2.2 : (Option Int))), .j, .j, .j], []⟩) (fun _ => ⟨(.cons le_r (.cons le_j (.cons le_j (.cons le_r (.cons le_r (.cons le_r (.cons le_r (.cons le_r (.cons le_r (.cons le_j (.cons le_j (.cons le_j .nil)))))))))))), rfl⟩) (fun x73 =>
  (xs_ite (b_vx o_neE rfl rfl rfl (v_lst (l_cons (v_frf rfl) (l_cons (v_frf rfl) (l_cons (β := Any) (v_map (f := (Any.of : Int → Any)) (fun _ => rfl) (v_frf rfl)) (l_cons (β := Any) (v_map (f := (Any.of : (Option Int) → Any)) (fun _ => rfl) (v_frf rfl)) (l_cons (v_frf rfl) l_nil))))) (by decide)) rfl) (fun x74 =>
  (xs_ret (F := (fun q => Fo.rt q)) (v_con (q_bl _)) (fun _ _ _ h1 h2 => rl kr h1 h2 rfl ⟨(.cons le_j (.cons le_j (.cons le_j (.cons le_j (.cons le_j (.cons le_j (.cons le_j (.cons le_j (.cons le_j (.cons le_j (.cons le_j (.cons le_j .nil)))))))))))), rfl⟩))) (fun x74 =>
  (xs_ite (b_xx o_neE rfl rfl rfl (v_lst (l_cons (v_fxq (q_fxqF (q_2 o_ixL (q_var rfl) (q_int _)))) (l_cons (v_fxq (q_fxqF (q_2 o_ixL (q_var rfl) (q_int _)))) (l_cons (v_fxq (q_fxqF (q_2 o_ixL (q_var rfl) (q_int _)))) (l_cons (v_fxq (q_fxqF (q_2 o_ixL (q_var rfl) (q_int _)))) l_nil)))) (by decide)) (v_lst (l_cons (β := Any) (v_map (f := (Any.of : Int → Any)) (fun _ => rfl) (v_frf rfl)) (l_cons (β := Any) (v_map (f := (Any.of : (Option Int) → Any)) (fun _ => rfl) (v_frf rfl)) (l_cons (β := Any) (v_map (f := (Any.of : (List Nm) → Any)) (fun _ => rfl) (v_frv rfl)) (l_cons (β := Any) (v_map (f := (Any.of : Int → Any)) (fun _ => rfl) (v_frf rfl)) l_nil)))) (by decide))) (fun x87 =>
  (xs_ret (F := (fun q => Fo.rt q)) (v_con (q_bl _)) (fun _ _ _ h1 h2 => rl kr h1 h2 rfl ⟨(.cons le_j (.cons le_j (.cons le_j (.cons le_j (.cons le_j (.cons le_j (.cons le_j (.cons le_j (.cons le_j (.cons le_j (.cons le_j (.cons le_j .nil)))))))))))), rfl⟩))) (fun x87 =>
  (xs_ite (n_not (v_call1 (g_v rfl (v_frf rfl) g_nil) (fun _ => rfl) (fun _ => (nrs_cons (NoR.nr _) nrs_nil)) (fun _ => hc_law_ring_right _) (fun _ _ => rfl) (fun _ => rfl))) (fun x90 =>
  (xs_ret (F := (fun q => Fo.rt q)) (v_con (q_bl _)) (fun _ _ _ h1 h2 => rl kr h1 h2 rfl ⟨(.cons le_j (.cons le_j (.cons le_j (.cons le_j (.cons le_j (.cons le_j (.cons le_j (.cons le_j (.cons le_j (.cons le_j (.cons le_j (.cons le_j .nil)))))))))))), rfl⟩))) (fun x90 =>
  (xs_e (w := Fo.nx ()) (el ⟨(.cons le_r (.cons le_j (.cons le_j (.cons le_j (.cons le_j (.cons le_j (.cons le_j (.cons le_j (.cons le_j (.cons le_j (.cons le_j (.cons le_j .nil)))))))))))), rfl⟩))))))))))) hr_l))))))))))))))) (fun w91 =>
  (xs_ret (F := (fun q => q)) (v_con (q_bl _)) (fun _ _ _ h1 h2 => rr kr h1 h2 rfl ⟨(.cons le_j (.cons le_j (.cons le_j (.cons le_j (.cons le_j (.cons le_j (.cons le_j (.cons le_j (.cons le_j (.cons le_j (.cons le_j (.cons le_j .nil)))))))))))), rfl⟩))) hr_f)) (by delta p_law; simp only [bs, ms, ids]; all_goals rfl)
end VK
namespace VK
open VI PU
def PileOk (d : List Int) (B : Nat) : Prop := ∃ g s k : Int, d = [g, s, k] ∧ 0 ≤ g ∧ 0 ≤ k ∧ k ≤ B
theorem PileOk.le {d : List Int} {B C : Nat} (h : PileOk d B) (l : B ≤ C) : PileOk d C := by
  obtain ⟨g, s, k, e, h1, h2, h3⟩ := h
  exact ⟨g, s, k, e, h1, h2, by omega⟩
theorem mixed_okP (a k : Int) (h : k.natAbs < 2 ^ 200) : ∃ r, p_law_mixed a k = some r ∧ 0 ≤ r := by
  delta p_law_mixed
  have p1 : (0 : Int) < 2147483647 := by decide
  have p2 : (0 : Int) < 2147483629 := by decide
  have p3 : (0 : Int) < 2147483587 := by decide
  have m1 : mulI (a % 2147483647) 48271 = some (a % 2147483647 * 48271) := mulI_ok (by omega) (by decide)
  have m2 : mulI k 69621 = some (k * 69621) := mulI_ok (by omega) (by decide)
  simp only [modI_ok p1, Option.bind_some, m1, m2]
  have hx0 := Int.emod_nonneg (a % 2147483647 * 48271 + k * 69621 + 11) (show (2147483647 : Int) ≠ 0 by decide)
  have hx1 := Int.emod_lt_of_pos (a % 2147483647 * 48271 + k * 69621 + 11) p1
  generalize (a % 2147483647 * 48271 + k * 69621 + 11) % 2147483647 = x at hx0 hx1
  have m3 : mulI x x = some (x * x) := mulI_ok (by omega) (by omega)
  have hy0 := Int.emod_nonneg (x * x) (show (2147483629 : Int) ≠ 0 by decide)
  have hy1 := Int.emod_lt_of_pos (x * x) p2
  simp only [m3, Option.bind_some, modI_ok p2]
  generalize x * x % 2147483629 = y at hy0 hy1
  have m4 : mulI y y = some (y * y) := mulI_ok (by omega) (by omega)
  have hz0 := Int.emod_nonneg (y * y) (show (2147483587 : Int) ≠ 0 by decide)
  simp only [m4, Option.bind_some, modI_ok p3, fdivI_ok (show (0 : Int) < 64 by decide) (show (64 : Int).natAbs < 2 ^ 250 by decide)]
  exact ⟨_, rfl, Int.ediv_nonneg hz0 (by decide)⟩
theorem take_okP {d : List Int} {B : Nat} {n : Int} (hp : PileOk d B) (hB : B < 2 ^ 100) (hn : 0 < n) (hn2 : n < 2 ^ 200) : ∃ r d', p_law_take d n = some (r, d') ∧ 0 ≤ r ∧ r < n ∧ PileOk d' (B + 1) := by
  obtain ⟨g, s, k, rfl, hg, hk, hkB⟩ := hp
  delta p_law_take
  have a0 : at' [g, s, k] (0 : Int) = some g := at_nat [g, s, k] 0
  have a2 : at' [g, s, k] (2 : Int) = some k := at_nat [g, s, k] 2
  have s2 : ∀ y : Int, setl y (2 : Int) [g, s, k] = some ((), [g, s, y]) := fun y => setl_ok (l := [g, s, k]) (i := 2) (by simp)
  have s0 : ∀ y : Int, setl y (0 : Int) [g, s, k] = some ((), [y, s, k]) := fun y => setl_ok (l := [g, s, k]) (i := 0) (by simp)
  by_cases h0 : g = 0
  · obtain ⟨r, hr, hr0⟩ := mixed_okP s (k + 1) (by omega)
    have b1 : at' [g, s, k + 1] (1 : Int) = some s := at_nat [g, s, k + 1] 1
    have b2 : at' [g, s, k + 1] (2 : Int) = some (k + 1) := at_nat [g, s, k + 1] 2
    refine ⟨r % n, [g, s, k + 1], ?_, Int.emod_nonneg _ (by omega), Int.emod_lt_of_pos _ hn, g, s, k + 1, rfl, hg, by omega, by omega⟩
    have hm : eqB g (0 : Int) = true := by simp [h0]
    simp only [a0, Option.bind_some, hm, if_true, a2, s2, b1, b2, hr, modI_ok hn]
  · refine ⟨g % n, [g / n, s, k], ?_, Int.emod_nonneg _ (by omega), Int.emod_lt_of_pos _ hn, g / n, s, k, rfl, Int.ediv_nonneg hg (by omega), hk, by omega⟩
    have hm : eqB g (0 : Int) = false := by simp [h0]
    simp only [a0, Option.bind_some, hm, Bool.false_eq_true, if_false, modI_ok hn, fdivI_ok hn (show n.natAbs < 2 ^ 250 by omega), s0]
theorem big : (10 : Int) ^ Int.toNat 50 * 10 ^ Int.toNat 50 * 10 ^ Int.toNat 50 = 10 ^ 150 := by decide
theorem pile_okP (ns : List Int) (k : Nat) (hk : k < 100) : ∃ d, p_law_pile ⟨ns⟩ (k : Int) = some d ∧ PileOk d (97 * k) := by
  have p50 : powI (10 : Int) (50 : Int) = some (10 ^ Int.toNat 50) := if_pos (by decide)
  have p18 : powI (10 : Int) (18 : Int) = some (10 ^ Int.toNat 18) := if_pos (by decide)
  have q1 : mulI (10 ^ Int.toNat 50) (10 ^ Int.toNat 50) = some (10 ^ Int.toNat 50 * 10 ^ Int.toNat 50) := if_pos (by decide)
  have q2 : mulI (10 ^ Int.toNat 50 * 10 ^ Int.toNat 50) (10 ^ Int.toNat 50) = some (10 ^ 150) := (if_pos (by decide)).trans (congrArg some big)
  have q4 : mulI 97 (k : Int) = some (97 * (k : Int)) := mulI_ok (by decide) (by omega)
  have key : ∀ c : Int, ∃ d, (((((powI (10 : Int) (50 : Int)).bind fun x5 => (powI (10 : Int) (50 : Int)).bind fun x6 => mulI x5 x6).bind fun x7 => (powI (10 : Int) (50 : Int)).bind fun x8 => mulI x7 x8).bind fun x9 => modI c x9).bind fun x10 =>
  (((((powI (10 : Int) (18 : Int)).bind fun x11 => some (decide (x11 ≤ (absI c)))).bind fun x12 => some (b2i x12)).bind fun x13 => mulI x10 x13).bind fun x14 => ((modI c (2147483647 : Int)).bind fun x15 => ((mulI (97 : Int) (k : Int)).bind fun x16 => some (x16 :: [])).bind fun l17 => some (x15 :: l17)).bind fun l18 => some (x14 :: l18)).bind fun x19 => some x19) = some d ∧ PileOk d (97 * k) := by
    intro c
    have q3 : modI c (10 ^ 150) = some (c % 10 ^ 150) := modI_ok (by decide)
    have h0 : 0 ≤ c % 10 ^ 150 := Int.emod_nonneg _ (by decide)
    have h1 : c % 10 ^ 150 < 10 ^ 150 := Int.emod_lt_of_pos _ (by decide)
    have hb : ∀ b : Bool, mulI (c % 10 ^ 150) (b2i b) = some (c % 10 ^ 150 * b2i b) := fun b => by
      unfold mulI
      refine if_pos ?_
      have l1 : (c % 10 ^ 150).natAbs.log2 < 500 := by
        refine Nat.lt_of_le_of_lt ?_ (show 499 < 500 by decide)
        by_cases hz : (c % 10 ^ 150).natAbs = 0
        · rw [hz]; decide
        · exact Nat.le_of_lt_succ ((Nat.log2_lt hz).mpr (Nat.lt_of_lt_of_le (show (c % 10 ^ 150).natAbs < 10 ^ 150 by omega) (by decide)))
      have l2 : (b2i b).natAbs.log2 < 5 := by cases b <;> decide
      omega
    have hb2 : ∀ b : Bool, 0 ≤ c % 10 ^ 150 * b2i b := fun b => Int.mul_nonneg h0 (by cases b <;> decide)
    refine ⟨_, by simp only [p50, p18, Option.bind_some, q1, q2, q3, hb, modI_ok (show (0 : Int) < 2147483647 by decide), q4]; rfl, _, _, _, rfl, hb2 _, by omega, by omega⟩
  delta p_law_pile
  by_cases h : k < ns.length
  · have e1 : at' ns (k : Int) = some ns[k] := by rw [at_nat]; simp [h]
    obtain ⟨d, e, hd⟩ := key ns[k]
    refine ⟨d, ?_, hd⟩
    have : decide ((k : Int) < (ns.length : Int)) = true := by simp [h]
    simp only [this, if_true, e1, Option.bind_some]
    exact e
  · obtain ⟨d, e, hd⟩ := key 0
    refine ⟨d, ?_, hd⟩
    have : decide ((k : Int) < (ns.length : Int)) = false := by simp; omega
    simp only [this, Bool.false_eq_true, if_false, Option.bind_some]
    exact e
end VK
namespace VK
open VI PU
def ABC : Nm := nm "abcdefghijklmnopqrstuvwxyz"
theorem letter26 : ∀ i : Fin 26, (sgn ABC ((i.1 : Nat) : Int)).map Nm.l = some [97 + i.1] := by decide +kernel
theorem letter {i : Int} (h0 : 0 ≤ i) (h1 : i < 26) : ∃ y, sgn ABC i = some y ∧ y.l = [97 + i.toNat] := by
  obtain ⟨n, rfl⟩ := Int.eq_ofNat_of_zero_le h0
  have := letter26 ⟨n, by omega⟩
  simp only at this
  cases e : sgn ABC (n : Int) with
  | none => rw [e] at this; cases this
  | some y => rw [e] at this; exact ⟨y, rfl, by simpa using this⟩
theorem glued_go : ∀ (parts : List PySem.Str) (acc : Array Nat), (parts.foldl (fun acc p => acc ++ (⟨#[]⟩ : PySem.Str).cps ++ p.cps) acc).toList = acc.toList ++ (parts.map fun x => x.cps.toList).flatten
  | [], acc => by simp
  | p :: parts, acc => by
    rw [List.foldl_cons, glued_go parts]
    simp
theorem glued_nil (parts : List PySem.Str) : (PySem.Txt.join ⟨#[]⟩ parts).cps.toList = (parts.map fun x => x.cps.toList).flatten := by
  show ((parts.drop 1).foldl (fun acc p => acc ++ (⟨#[]⟩ : PySem.Str).cps ++ p.cps) (parts.headD PySem.Str.empty).cps).toList = _
  rw [glued_go]
  cases parts with
  | nil => rfl
  | cons p parts => simp
theorem join_ok {l : List Nm} (hl : (l.map fun x => x.l.length).sum ≤ 1000) : ∃ y, joinS (nm "") l = some y ∧ y.l = (l.map Nm.l).flatten := by
  have hj : (PySem.Txt.join (nm "").s (l.map Nm.s)).cps.toList = (l.map Nm.l).flatten := by
    have : (nm "").s = ⟨#[]⟩ := rfl
    rw [this, glued_nil, List.map_map]
    rfl
  have hok : ((PySem.Txt.join (nm "").s (l.map Nm.s)).cps.toList.all fun c => decide (c < 1114112)) = true := by
    rw [hj]
    refine List.all_eq_true.mpr fun c hc => ?_
    obtain ⟨x, hx, hcx⟩ := List.mem_flatten.mp hc
    obtain ⟨y, _, rfl⟩ := List.mem_map.mp hx
    exact List.all_eq_true.mp y.ok c hcx
  refine ⟨⟨_, hok⟩, ?_, hj⟩
  unfold joinS
  have h0 : (nm "").l.length = 0 := rfl
  have hlim : lim = 1000000 := rfl
  rw [if_pos (by rw [h0]; omega), dif_pos hok]
theorem cutN_ok {z : Nm} {lo hi : Option Int} (h : z.l.length ≤ lim) : ∃ y, cutN z lo hi = some y ∧ y.l = cutL z.l lo hi := by
  have hok : ((cutL z.l lo hi).all fun c => decide (c < 1114112)) = true := by
    refine List.all_eq_true.mpr fun c hc => ?_
    have : c ∈ z.l := by
      unfold cutL at hc
      exact List.mem_of_mem_drop (List.mem_of_mem_take hc)
    exact List.all_eq_true.mp z.ok c this
  refine ⟨⟨cutL z.l lo hi, hok⟩, ?_, rfl⟩
  unfold cutN
  rw [if_pos h, dif_pos hok]
theorem addS_ok {x y : Nm} (h : x.l.length + y.l.length ≤ lim) : ∃ z, addS x y = some z ∧ z.l = x.l ++ y.l := ⟨cat x y, if_pos h, rfl⟩
theorem mpO_rel {β γ : Type} {f : β → Option γ} (R : β → γ → Prop) : ∀ {xs : List β}, (∀ x ∈ xs, ∃ y, f x = some y ∧ R x y) → ∃ ys, mpO f xs = some ys ∧ ys.length = xs.length ∧ ∀ (i : Nat) (x : β) (y : γ), xs[i]? = some x → ys[i]? = some y → R x y
  | [], _ => ⟨[], rfl, rfl, fun i x y h => by simp at h⟩
  | x :: xs, h => by
    obtain ⟨y, e, r⟩ := h x List.mem_cons_self
    obtain ⟨ys, e2, l2, r2⟩ := mpO_rel R (xs := xs) fun x hx => h x (List.mem_cons_of_mem _ hx)
    refine ⟨y :: ys, by simp only [mpO, e, e2, Option.bind_some], by simp [l2], fun i a b ha hb => ?_⟩
    cases i with
    | zero => simp at ha hb; subst ha; subst hb; exact r
    | succ i => exact r2 i a b (by simpa using ha) (by simpa using hb)
def some15 : List Nm := [(nm "a"), (nm "b"), (nm "ab"), (nm "c"), (nm "ba"), (nm "abc"), (nm "aa"), (nm "bc"), (nm "aab"), (nm "ca"), (nm "cab"), (nm "d"), (nm "abd"), (nm "bca"), (nm "e")]
theorem some15_nd : ∀ o : Fin 10, ∀ n : Fin 13, ((some15.drop o.1 ++ some15).take n.1).Nodup := by decide +kernel
theorem some15_gd : ∀ x ∈ some15, goodN x := by
  have : (some15.all fun x => decide (1 ≤ x.l.length ∧ x.l.length ≤ 12) && x.l.all fun c => decide (97 ≤ c ∧ c ≤ 122)) = true := by decide +kernel
  intro x hx
  have := List.all_eq_true.mp this x hx
  rw [Bool.and_eq_true, decide_eq_true_eq] at this
  exact ⟨this.1.1, this.1.2, fun c hc => by simpa using List.all_eq_true.mp this.2 c hc⟩
def steps12 : List Int := [(1 : Int), (3 : Int), (5 : Int), (7 : Int), (9 : Int), (11 : Int), (15 : Int), (17 : Int), (19 : Int), (21 : Int), (23 : Int), (25 : Int)]
theorem steps_cop : ∀ s ∈ steps12, 0 < s ∧ s < 26 ∧ ∀ t : Fin 12, t.1 ≠ 0 → (s * (t.1 : Int)) % 26 ≠ 0 := by decide +kernel
theorem steps_ne {s : Int} (hs : s ∈ steps12) {a : Int} {i j : Nat} (hi : i < 12) (hj : j < 12) (h : (a + s * i) % 26 = (a + s * j) % 26) : i = j := by
  have key : ∀ i j : Nat, i < j → j < 12 → (a + s * i) % 26 = (a + s * j) % 26 → False := fun i j hij hj h => by
    have h2 := (steps_cop s hs).2.2 ⟨j - i, by omega⟩ (by simp; omega)
    simp only at h2
    have h3 : (s * (j : Int) - s * (i : Int)) % 26 = 0 := by
      generalize s * (i : Int) = p at h ⊢
      generalize s * (j : Int) = q at h ⊢
      omega
    have h4 : s * ((j - i : Nat) : Int) = s * (j : Int) - s * (i : Int) := by
      rw [Int.ofNat_sub (by omega), Int.mul_sub]
    rw [h4] at h2
    exact h2 h3
  rcases Nat.lt_trichotomy i j with h1 | h1 | h1
  · exact (key i j h1 hj h).elim
  · exact h1
  · exact (key j i h1 hi h.symm).elim
theorem mulS_ok {x : Nm} {n : Nat} (h : x.l.length ≤ 4000) (hn : n ≤ 4000) : ∃ y, mulS x (n : Int) = some y ∧ y.l = (List.replicate n x.l).flatten := ⟨repN x n, if_pos ⟨h, by omega, by omega⟩, rfl⟩
theorem getAt (pre post t : List Nat) (c : Nat) : (pre ++ [c] ++ post ++ t)[pre.length]? = some c := by
  rw [List.append_assoc, List.append_assoc, List.getElem?_append_right (Nat.le_refl _), Nat.sub_self]
  rfl
theorem names_okP {d : List Int} {B : Nat} {n : Nat} (hp : PileOk d B) (hB : B < 2 ^ 99) (hn : n ≤ 12) : ∃ l d', p_law_names d (n : Int) = some (l, d') ∧ l.length = n ∧ l.Nodup ∧ (∀ x ∈ l, goodN x) ∧ PileOk d' (B + 40) := by
  have hlim : lim = 1000000 := rfl
  delta p_law_names
  obtain ⟨a, d1, e1, a0, a1, q1⟩ := take_okP (n := 12) hp (by omega) (by decide) (by decide)
  obtain ⟨A, rfl⟩ := Int.eq_ofNat_of_zero_le a0
  have g1 : rngG ((A : Nat) : Int) = some (rngN A) := rngG_nat (by omega)
  obtain ⟨ys, d2, e2, l2, m2, q2⟩ := mpW_inv (f := fun (x6 : Int) (w7 : (List Int)) => ((p_law_take w7 (26 : Int)).bind fun x9 => (sgn ABC x9.1).map fun z11 => (x9, z11)).bind fun x10 => some (x10.2, x10.1.2)) (fun y => ∃ c, y.l = [c] ∧ 97 ≤ c ∧ c ≤ 122) (rngN A) (fun i w => PileOk w (B + 1 + i)) d1 q1 (by
    intro i x w hx hw
    have hi := (List.getElem?_eq_some_iff.mp hx).1
    rw [rngN_len] at hi
    have hw' : PileOk w (B + 1 + i) := hw
    obtain ⟨r, w', er, r0, r1, qr⟩ := take_okP (n := 26) hw' (by omega) (by decide) (by decide)
    obtain ⟨y, hy, hyl⟩ := letter r0 r1
    exact ⟨y, w', by simp only [er, bs, hy, Option.map_some], ⟨97 + r.toNat, hyl, by omega, by omega⟩, qr⟩)
  rw [rngN_len] at l2 q2
  have hsum : ∀ l : List Nm, (∀ y ∈ l, ∃ c, y.l = [c] ∧ 97 ≤ c ∧ c ≤ 122) → (l.map fun x => x.l.length).sum = l.length ∧ (l.map Nm.l).flatten.length = l.length ∧ ∀ c ∈ (l.map Nm.l).flatten, 97 ≤ c ∧ c ≤ 122 := fun l => by
    induction l with
    | nil => exact fun _ => ⟨rfl, rfl, fun c hc => by simp at hc⟩
    | cons y l ih =>
      intro h
      obtain ⟨c, hc, c1, c2⟩ := h y List.mem_cons_self
      obtain ⟨i1, i2, i3⟩ := ih fun y hy => h y (List.mem_cons_of_mem _ hy)
      refine ⟨by simp [hc, i1] <;> omega, by simp [hc, i2] <;> omega, fun c' hc' => ?_⟩
      simp only [List.map_cons, List.flatten_cons, List.mem_append, hc, List.mem_singleton] at hc'
      rcases hc' with rfl | hc'
      · exact ⟨c1, c2⟩
      · exact i3 c' hc'
  obtain ⟨s1, s2, s3⟩ := hsum ys m2
  obtain ⟨stem, e3, hst⟩ := join_ok (l := ys) (by omega)
  have hsl : stem.l.length = A := by rw [hst]; omega
  rw [← hst] at s3
  have e4 : lenS stem = some ((A : Nat) : Int) := by
    unfold lenS
    rw [if_pos (by omega), hsl]
  obtain ⟨at0, d3, e5, t0, t1, q3⟩ := take_okP (n := ((A : Nat) : Int) + 1) q2 (by omega) (by omega) (by omega)
  obtain ⟨sf, d4, e6, f0, f1, q4⟩ := take_okP (n := 26) q3 (by omega) (by decide) (by decide)
  obtain ⟨si, d5, e7, i0, i1, q5⟩ := take_okP (n := 12) q4 (by omega) (by decide) (by decide)
  obtain ⟨st, e8, hstep⟩ := at_lt (l := steps12) i0 (by exact i1)
  obtain ⟨st0, st1, _⟩ := steps_cop st hstep
  have k4 : (0 : Int) < 4 := by decide
  have e9 : at' [(1 : Int), (3 : Int), (5 : Int), (7 : Int), (9 : Int), (11 : Int), (15 : Int), (17 : Int), (19 : Int), (21 : Int), (23 : Int), (25 : Int)] si = some st := e8
  have hABC : ∀ i : Int, sgn (nm "abcdefghijklmnopqrstuvwxyz") i = sgn ABC i := fun _ => rfl
  have ef : ∀ {γ : Type} (c : Option γ), few (rngN A) c = c := fun c => few_ok (by rw [rngN_len]; omega)
  simp only [hABC, e1, bs, g1, Option.map_some, ef, e2, e3, e4, e5, e6, e7, e9]
  have hcond : ((modI sf (4 : Int)).bind fun x26 => some (eqB x26 (3 : Int))) = some (eqB (sf % 4) 3) := by simp only [modI_ok k4, Option.bind_some]
  have hn13 : decide ((n : Int) < (13 : Int)) = true := by simp; omega
  have m4 : modI sf 4 = some (sf % 4) := modI_ok k4
  have m5 : modI st 4 = some (st % 4) := modI_ok k4
  have m6 : fdivI sf 4 = some (sf / 4) := fdivI_ok k4 (by decide)
  simp only [m4, bs, hn13]
  cases hc : eqB (sf % 4) 3 with
  | true =>
    simp only [if_true, m5, m6, bs]
    have ho0 : 0 ≤ sf / 4 + st % 4 := by omega
    have ho1 : sf / 4 + st % 4 < 10 := by omega
    have c1 : cutL some15 (some (sf / 4 + st % 4)) none = some15.drop (sf / 4 + st % 4).toNat := cut_from some15 ho0
    have c2 : addL (some15.drop (sf / 4 + st % 4).toNat) some15 = some (some15.drop (sf / 4 + st % 4).toNat ++ some15) := addL_ok (by rw [List.length_drop]; show 15 - _ + 15 ≤ lim; omega)
    have c1' : cutL [(nm "a"), (nm "b"), (nm "ab"), (nm "c"), (nm "ba"), (nm "abc"), (nm "aa"), (nm "bc"), (nm "aab"), (nm "ca"), (nm "cab"), (nm "d"), (nm "abd"), (nm "bca"), (nm "e")] (some (sf / 4 + st % 4)) none = some15.drop (sf / 4 + st % 4).toNat := c1
    have c2' : addL (some15.drop (sf / 4 + st % 4).toNat) [(nm "a"), (nm "b"), (nm "ab"), (nm "c"), (nm "ba"), (nm "abc"), (nm "aa"), (nm "bc"), (nm "aab"), (nm "ca"), (nm "cab"), (nm "d"), (nm "abd"), (nm "bca"), (nm "e")] = some (some15.drop (sf / 4 + st % 4).toNat ++ some15) := c2
    simp only [c1', c2', bs, cut_to _ (show (0 : Int) ≤ (n : Int) by omega)]
    refine ⟨_, d5, rfl, ?_, some15_nd ⟨(sf / 4 + st % 4).toNat, by omega⟩ ⟨n, by omega⟩, fun x hx => ?_, q5.le (by omega)⟩
    · have h15 : some15.length = 15 := rfl
      rw [List.length_take, List.length_append, List.length_drop, h15]
      omega
    · rcases List.mem_append.mp (List.mem_of_mem_take hx) with h | h
      · exact some15_gd x (List.mem_of_mem_drop h)
      · exact some15_gd x h
  | false =>
    simp only [Bool.false_eq_true, if_false, bs]
    have hpl : (nm "a").l = [97] := rfl
    obtain ⟨tail, e10, htl⟩ : ∃ tail, mulS (nm "a") (b2i (decide ((A : Int) < (11 : Int)))) = some tail ∧ tail.l = if A < 11 then [97] else [] := by
      by_cases h : A < 11
      · have hd : decide ((A : Int) < (11 : Int)) = true := by simp; omega
        rw [hd]
        obtain ⟨y, h1, h2⟩ := mulS_ok (x := nm "a") (n := 1) (by rw [hpl]; decide) (by decide)
        exact ⟨y, h1, by rw [h2, hpl, if_pos h]; rfl⟩
      · have hd : decide ((A : Int) < (11 : Int)) = false := by simp; omega
        rw [hd]
        obtain ⟨y, h1, h2⟩ := mulS_ok (x := nm "a") (n := 0) (by rw [hpl]; decide) (by decide)
        exact ⟨y, h1, by rw [h2, if_neg h]; rfl⟩
    simp only [e10, bs, rngG_nat (show n ≤ 1000000 by omega)]
    obtain ⟨T, rfl⟩ := Int.eq_ofNat_of_zero_le t0
    have hTA : T ≤ A := by omega
    obtain ⟨pre, e11, hpre⟩ := cutN_ok (z := stem) (lo := none) (hi := some (T : Int)) (by omega)
    obtain ⟨post, e12, hpost⟩ := cutN_ok (z := stem) (lo := some (T : Int)) (hi := none) (by omega)
    rw [cut_to _ (by omega)] at hpre
    rw [cut_from _ (by omega)] at hpost
    simp only [Int.toNat_natCast] at hpre hpost
    have hprel : pre.l.length = T := by rw [hpre, List.length_take]; omega
    have hpostl : post.l.length = A - T := by rw [hpost, List.length_drop]; omega
    obtain ⟨us, e13, hul, hur⟩ := mpO_rel (f := fun (x42 : Int) => ((cutN stem none (some (T : Int))).bind fun x44 => ((((mulI st x42).bind fun x45 => some (sf + x45)).bind fun x46 => modI x46 (26 : Int)).bind fun x47 => sgn ABC x47).bind fun x48 => addS x44 x48).bind fun x49 => (cutN stem (some (T : Int)) none).bind fun x50 => addS x49 x50)
      (fun (k : Int) (y : Nm) => y.l = pre.l ++ [97 + ((sf + st * k) % 26).toNat] ++ post.l) (xs := rngN n) (fun k hk => by
        obtain ⟨k0, k1⟩ := rngN_mem.mp hk
        have b1 : mulI st k = some (st * k) := mulI_ok (by omega) (by omega)
        have b2 : modI (sf + st * k) 26 = some ((sf + st * k) % 26) := modI_ok (by decide)
        obtain ⟨c, b3, hcl⟩ := letter (Int.emod_nonneg (sf + st * k) (show (26 : Int) ≠ 0 by decide)) (Int.emod_lt_of_pos (sf + st * k) (show (0 : Int) < 26 by decide))
        obtain ⟨y1, b4, h1⟩ := addS_ok (x := pre) (y := c) (by rw [hcl, hprel]; simp; omega)
        obtain ⟨y2, b5, h2⟩ := addS_ok (x := y1) (y := post) (by rw [h1, hcl, List.length_append, hprel, hpostl]; simp; omega)
        exact ⟨y2, by simp only [e11, e12, Option.bind_some, b1, b2, b3, b4, b5], by rw [h2, h1, hcl]⟩)
    rw [rngN_len] at hul
    have hfn : ∀ {γ : Type} (c : Option γ), few (rngN n) c = c := fun c => few_ok (by rw [rngN_len]; omega)
    simp only [hfn, e13, bs]
    have hel : (enumL us).length = n := by unfold enumL; rw [List.length_zipWith, List.length_range]; omega
    obtain ⟨vs, e14, hvl, hvr⟩ := mpO_rel (f := fun (x54 : (Int × Nm)) => ((modI x54.1 (2 : Int)).bind fun x56 => mulS tail x56).bind fun x57 => addS x54.2 x57)
      (fun (p : Int × Nm) (y : Nm) => 0 ≤ p.1 → y.l = p.2.l ++ if A < 11 ∧ p.1 % 2 = 1 then [97] else []) (xs := enumL us) (fun p hp => by
        have b1 : modI p.1 2 = some (p.1 % 2) := modI_ok (by decide)
        have h2 : 0 ≤ p.1 % 2 ∧ p.1 % 2 < 2 := by omega
        obtain ⟨m, hm⟩ := Int.eq_ofNat_of_zero_le h2.1
        obtain ⟨y1, b2, h3⟩ := mulS_ok (x := tail) (n := m) (by rw [htl]; split <;> decide) (by omega)
        rw [hm] at b1
        have hpm : p.2 ∈ us := by
          unfold enumL at hp
          obtain ⟨i, hi, e⟩ := List.mem_iff_getElem.mp hp
          simp only [List.getElem_zipWith] at e
          rw [← e]
          exact List.getElem_mem _
        have hul2 : p.2.l.length = A + 1 := by
          obtain ⟨i, hi, e⟩ := List.mem_iff_getElem.mp hpm
          have hi2 : i < n := by omega
          have := hur i (i : Int) p.2 (by unfold rngN; rw [List.getElem?_map, List.getElem?_range hi2]; rfl) (by rw [← e]; exact List.getElem?_eq_getElem hi)
          rw [this, List.length_append, List.length_append, hprel, hpostl]
          simp
          omega
        have hy1 : y1.l.length ≤ 1 := by
          rw [h3, htl]
          have : m = 0 ∨ m = 1 := by omega
          rcases this with rfl | rfl <;> split <;> simp
        obtain ⟨y2, b3, h4⟩ := addS_ok (x := p.2) (y := y1) (by omega)
        refine ⟨y2, by simp only [b1, b2, b3, Option.bind_some], fun _ => ?_⟩
        rw [h4, h3, htl]
        have : m = 0 ∨ m = 1 := by omega
        rcases this with rfl | rfl
        · have : ¬ (A < 11 ∧ p.1 % 2 = 1) := by omega
          rw [if_neg this]
          rfl
        · by_cases hA : A < 11
          · rw [if_pos hA, if_pos ⟨hA, by omega⟩]; rfl
          · rw [if_neg hA, if_neg (fun h => hA h.1)]; rfl)
    rw [hel] at hvl
    have hfe : ∀ {γ : Type} (c : Option γ), few (enumL us) c = c := fun c => few_ok (by rw [hel]; omega)
    simp only [hfe, e14, bs]
    have hv : ∀ (i : Nat) (y : Nm), vs[i]? = some y → i < n ∧ y.l = (pre.l ++ [97 + ((sf + st * (i : Int)) % 26).toNat] ++ post.l) ++ if A < 11 ∧ (i : Int) % 2 = 1 then [97] else [] := fun i y hy => by
      have hi := (List.getElem?_eq_some_iff.mp hy).1
      have hi2 : i < us.length := by omega
      have hu := hur i (i : Int) us[i] (by unfold rngN; rw [List.getElem?_map, List.getElem?_range (by omega)]; rfl) (List.getElem?_eq_getElem hi2)
      have he : (enumL us)[i]? = some ((i : Int), us[i]) := by
        unfold enumL
        rw [List.getElem?_zipWith, List.getElem?_range (by omega), List.getElem?_eq_getElem hi2]
      have := hvr i _ y he hy (by simp)
      simp only at this
      rw [hu] at this
      exact ⟨by omega, this⟩
    refine ⟨vs, d5, rfl, by omega, ?_, fun x hx => ?_, q5.le (by omega)⟩
    · rw [List.nodup_iff_pairwise_ne, List.pairwise_iff_getElem]
      intro i j hi hj hij he
      obtain ⟨hi1, h1⟩ := hv i vs[i] (List.getElem?_eq_getElem hi)
      obtain ⟨hj1, h2⟩ := hv j vs[j] (List.getElem?_eq_getElem hj)
      rw [he, h2] at h1
      have h3 := congrArg (fun l : List Nat => l[pre.l.length]?) h1
      rw [getAt, getAt] at h3
      have h3 := Option.some.inj h3
      have n1 := Int.emod_nonneg (sf + st * (i : Int)) (show (26 : Int) ≠ 0 by decide)
      have n2 := Int.emod_nonneg (sf + st * (j : Int)) (show (26 : Int) ≠ 0 by decide)
      have : (sf + st * (i : Int)) % 26 = (sf + st * (j : Int)) % 26 := by omega
      have := steps_ne hstep (a := sf) (show i < 12 by omega) (show j < 12 by omega) this
      omega
    · obtain ⟨i, hi, rfl⟩ := List.mem_iff_getElem.mp hx
      obtain ⟨hi1, h1⟩ := hv i vs[i] (List.getElem?_eq_getElem hi)
      have n1 := Int.emod_nonneg (sf + st * (i : Int)) (show (26 : Int) ≠ 0 by decide)
      have n2 := Int.emod_lt_of_pos (sf + st * (i : Int)) (show (0 : Int) < 26 by decide)
      refine ⟨?_, ?_, fun c hcm => ?_⟩
      · rw [h1, List.length_append, List.length_append, List.length_append]
        simp
        omega
      · rw [h1, List.length_append, List.length_append, List.length_append, hprel, hpostl]
        by_cases hA : A < 11
        · have : (if A < 11 ∧ (i : Int) % 2 = 1 then [97] else ([] : List Nat)).length ≤ 1 := by split <;> simp
          simp only [List.length_cons, List.length_nil]
          omega
        · have : (if A < 11 ∧ (i : Int) % 2 = 1 then [97] else ([] : List Nat)).length = 0 := by rw [if_neg (fun h => hA h.1)]; rfl
          simp only [List.length_cons, List.length_nil]
          omega
      · rw [h1] at hcm
        simp only [List.mem_append, List.mem_singleton] at hcm
        rcases hcm with ((h | h) | h) | h
        · exact s3 c (List.mem_of_mem_take (hpre ▸ h))
        · omega
        · exact s3 c (List.mem_of_mem_drop (hpost ▸ h))
        · split at h
          · rw [List.mem_singleton.mp h]
            decide
          · cases h
end VK
namespace VK
open VI PU
open PySem (PyData)
def Nice (x : Any) : Prop := ∃ p, toPy x.d = some p ∧ p.canLay0 = true ∧ p.depth ≤ 12 ∧ PyData.eqv p p = true
theorem nice_of {α : Type} [Cod α] [NoR α] [DecidableEq α] [Eqc α] (x : α) : Nice (Any.of x) :=
  ⟨Eqc.py x, Eqc.to x, Eqc.lay x, Nat.le_trans (Eqc.dep x) (Eqc.lo), by rw [Eqc.eqv]; simp⟩
theorem nices : ∀ (l : List Any), (∀ x ∈ l, Nice x) → ∃ ps, toPys (l.map Cod.enc) = some ps ∧ PyData.canLayAll0 ps = true ∧ PyData.depthAll ps ≤ 12 ∧ PyData.eqvAll ps ps = true
  | [], _ => ⟨[], rfl, rfl, by simp [PyData.depthAll], by simp [PyData.eqvAll]⟩
  | x :: l, h => by
    obtain ⟨p, e1, e2, e3, e4⟩ := h x List.mem_cons_self
    obtain ⟨ps, f1, f2, f3, f4⟩ := nices l fun y hy => h y (List.mem_cons_of_mem _ hy)
    refine ⟨p :: ps, ?_, ?_, ?_, ?_⟩
    · have e1 : toPy (Cod.enc x) = some p := e1
      simp only [List.map_cons, toPys, e1, f1]
    · simp only [PyData.canLayAll0, e2, f2, Bool.and_self]
    · simp only [PyData.depthAll]
      omega
    · simp only [PyData.eqvAll, e4, f4, Bool.and_self]
theorem neE_self {l : List Any} (h : ∀ x ∈ l, Nice x) : neE l l = some false := by
  obtain ⟨ps, f1, f2, f3, f4⟩ := nices l h
  have e : toPy (Cod.enc l) = some (.list ps) := by
    show (toPys (l.map Cod.enc)).map PyData.list = _
    rw [f1]
    rfl
  have sh : PySem.SeqAt.shaped (PyData.list ps) = true := shaped_py (by simp only [PyData.canLay0, f2]) (by simp only [PyData.depth]; omega)
  unfold neE eqE eqD
  rw [e]
  simp only [sh, Bool.and_self, if_true, PyData.eqv, f4, Option.map_some, Bool.not_true]
theorem toAny_d (x : Any) : toAny x.d = some x := by
  unfold toAny
  rw [dif_pos ⟨x.h, x.nr⟩]
theorem fxA_exc {al : List PySem.Str} {f C : PySem.Str} {fn : List PySem.Str} {l : List Any} {x : Any} (hC : C ∈ al) (hl : look fn.reverse (l.map Any.d).reverse f = some x.d) : fxA al f (excA C fn l) = some x := by
  unfold fxA excA fxD
  dsimp only
  rw [if_pos hC, hl, Option.bind_some, toAny_d]
theorem fx1 {al : List PySem.Str} {f C : PySem.Str} {x : Any} (hC : C ∈ al) : fxA al f (excA C [f] [x]) = some x := fxA_exc hC (by
  show look [f] [x.d] f = _
  simp [look])
theorem isxA_exc {yes : List PySem.Str} {al : List PySem.Str} {C : PySem.Str} {fn : List PySem.Str} {l : List Any} (hC : C ∈ al) : isxA al yes (excA C fn l) = some (decide (C ∈ yes)) := by
  unfold isxA excA
  dsimp only
  rw [if_pos hC]
def allC : List PySem.Str := ["InvalidShape", "UnknownCell", "InvalidRow", "InvalidWalk", "InvalidNumber", "InvalidText", "Ring", "TooMany", "NothingToUndo"]
def bitsC (C : PySem.Str) : List Bool := allC.map fun D => decide (C ∈ [D])
theorem classes_okP {C : PySem.Str} {fn : List PySem.Str} {l : List Any} (hC : C ∈ allC) : p_law_classes (excA C fn l) = some [Any.of (bitsC C), Any.of true, Any.of true] := by
  delta p_law_classes
  have h : ∀ yes, isxA ["InvalidShape", "UnknownCell", "InvalidRow", "InvalidWalk", "InvalidNumber", "InvalidText", "Ring", "TooMany", "NothingToUndo"] yes (excA C fn l) = some (decide (C ∈ yes)) := fun yes => isxA_exc hC
  have hC2 : decide (C ∈ (["InvalidShape", "UnknownCell", "InvalidRow", "InvalidWalk", "InvalidNumber", "InvalidText", "Ring", "TooMany", "NothingToUndo"] : List PySem.Str)) = true := decide_eq_true hC
  have ha : ∀ a b c d e f g i j : Bool, (addL [a, b, c] [d, e, f]).bind (fun x => (addL x [g, i, j]).bind fun y => some y) = some [a, b, c, d, e, f, g, i, j] := fun a b c d e f g i j => by
    rw [addL_ok (show [a, b, c].length + [d, e, f].length ≤ lim by show 6 ≤ 1000000; decide), Option.bind_some, addL_ok (show ([a, b, c] ++ [d, e, f]).length + [g, i, j].length ≤ lim by show 9 ≤ 1000000; decide)]
    rfl
  simp only [h, Option.bind_some, hC2]
  rw [addL_ok (show ([_, _, _] : List Bool).length + ([_, _, _] : List Bool).length ≤ lim by show 6 ≤ 1000000; decide), Option.bind_some, addL_ok (show (([_, _, _] : List Bool) ++ [_, _, _]).length + ([_, _, _] : List Bool).length ≤ lim by show 9 ≤ 1000000; decide)]
  rfl
theorem eqD_self {α : Type} [Cod α] [NoR α] [DecidableEq α] [Eqc α] (x : α) : neE (Any.of x) x = some false := by
  obtain ⟨p, e1, e2, e3, e4⟩ := nice_of x
  have e1 : toPy (Cod.enc x) = some p := e1
  unfold neE eqE eqD
  have e0 : (Cod.enc (Any.of x) : D) = Cod.enc x := rfl
  rw [e0, e1]
  simp only [shaped_py e2 (by omega), Bool.and_self, if_true, e4, Option.map_some, Bool.not_true]
theorem ring_right_okP {l : List Nm} (hl : l.length ≤ 100) : p_law_ring_right l = some true := by
  delta p_law_ring_right
  have hlim : lim = 1000000 := rfl
  have a1 : app l (nm "x") = some ((), l ++ [nm "x"]) := if_pos (by omega)
  have a2 : fxA ["Ring"] "cells" (excA "Ring" ["cells"] [Any.of l]) = some (Any.of l) := fx1 (by simp)
  have a3 : addL l [nm "x"] = some (l ++ [nm "x"]) := addL_ok (by simp; omega)
  have a4 : ∃ x, apA ["Ring"] "cells" (nm "y") (excA "Ring" ["cells"] [Any.of l]) = some x := by
    have e : (excA "Ring" ["cells"] [Any.of l]).d = .exc "Ring" ["cells"] [.lst false (l.map Cod.enc)] := rfl
    unfold apA
    rw [e]
    dsimp only
    rw [if_pos ⟨⟨by simp, rfl⟩, by rw [List.length_map]; omega⟩]
    have h1 : allFs (l.map Cod.enc ++ [Cod.enc (nm "y")]) = true := by
      have := Cod.fz (l ++ [nm "y"])
      have h : allF (Cod.enc (l ++ [nm "y"])) = (!false && allFs ((l ++ [nm "y"]).map Cod.enc)) := rfl
      rw [h] at this
      simpa using this
    have h2 : noRefs (l.map Cod.enc ++ [Cod.enc (nm "y")]) = true := by
      have := NoR.nr (l ++ [nm "y"])
      have h : noRef (Cod.enc (l ++ [nm "y"])) = noRefs ((l ++ [nm "y"]).map Cod.enc) := rfl
      rw [h] at this
      simpa using this
    unfold toAny
    rw [dif_pos ⟨by show (allF (.lst false _) && true) = true; show ((!false && allFs _) && true) = true; rw [h1]; rfl, by show (noRefs _ && true) = true; rw [h2]; rfl⟩]
    exact ⟨_, rfl⟩
  obtain ⟨x, a4⟩ := a4
  simp only [a1, Option.bind_some, a2, eqD_self, Bool.false_eq_true, if_false, a4, a3]
  simp
theorem turn_okP {k : Int} {C : PySem.Str} {fn : List PySem.Str} {l : List Any} (hC : C ∈ allC) (hb : bitsC C = (rngN 9).map fun j => eqB j k) :
    ((p_law_classes (excA C fn l)).bind fun x49 => ((((rngG (9 : Int)).bind fun x50 => few x50 (mpO (fun (x51 : Int) => some (eqB x51 k)) x50)).bind fun x54 => some (Any.of x54)).bind fun x55 => some (x55 :: ((Any.of true) :: ((Any.of true) :: [])))).bind fun x56 => neE x49 x56) = some false := by
  have e1 : rngG (9 : Int) = some (rngN 9) := rngG_nat (n := 9) (by decide)
  have e2 : mpO (fun (x51 : Int) => some (eqB x51 k)) (rngN 9) = some ((rngN 9).map fun j => eqB j k) := mpO_ok fun _ _ => rfl
  rw [classes_okP hC, e1]
  simp only [Option.bind_some]
  rw [few_ok (by show 9 ≤ 1000000; decide), e2, ← hb]
  simp only [Option.bind_some]
  refine neE_self fun x hx => ?_
  simp only [List.mem_cons, List.not_mem_nil, or_false] at hx
  rcases hx with rfl | rfl | rfl
  · exact nice_of _
  · exact nice_of _
  · exact nice_of _
theorem step_okP {k : Int} {C : PySem.Str} {fn : List PySem.Str} {l : List Any} (hC : C ∈ allC) (hb : bitsC C = (rngN 9).map fun j => eqB j k) (xs : List (Int × Any)) :
    loopO (fun (x46 : (Int × Any)) (w47 : Unit) =>
    ((p_law_classes x46.2).bind fun x49 => ((((rngG (9 : Int)).bind fun x50 => few x50 (mpO (fun (x51 : Int) => some (eqB x51 x46.1)) x50)).bind fun x54 => some (Any.of x54)).bind fun x55 => some (x55 :: ((Any.of true) :: ((Any.of true) :: [])))).bind fun x56 => neE x49 x56).bind fun x57 =>
      if x57 then
      some (Fo.rt false)
      else
      some (Fo.nx ())) ((k, excA C fn l) :: xs) () = loopO (fun (x46 : (Int × Any)) (w47 : Unit) =>
    ((p_law_classes x46.2).bind fun x49 => ((((rngG (9 : Int)).bind fun x50 => few x50 (mpO (fun (x51 : Int) => some (eqB x51 x46.1)) x50)).bind fun x54 => some (Any.of x54)).bind fun x55 => some (x55 :: ((Any.of true) :: ((Any.of true) :: [])))).bind fun x56 => neE x49 x56).bind fun x57 =>
      if x57 then
      some (Fo.rt false)
      else
      some (Fo.nx ())) xs () := by
  rw [loopO]
  dsimp only
  rw [turn_okP hC hb]
  rfl
theorem en_okP (th a b c : Any) (l : List Nm) : enumL ([excA "InvalidShape" ["cell"] [th], excA "UnknownCell" ["name"] [th], excA "InvalidRow" ["index"] [a], excA "InvalidWalk" ["index"] [b], excA "InvalidNumber" ["number"] [th]] ++ [excA "InvalidText" ["line", "column"] [a, b], excA "Ring" ["cells"] [c], excA "TooMany" ["limit"] [a], excA "NothingToUndo" [] []]) = [((0 : Int), excA "InvalidShape" ["cell"] [th]), (1, excA "UnknownCell" ["name"] [th]), (2, excA "InvalidRow" ["index"] [a]), (3, excA "InvalidWalk" ["index"] [b]), (4, excA "InvalidNumber" ["number"] [th]), (5, excA "InvalidText" ["line", "column"] [a, b]), (6, excA "Ring" ["cells"] [c]), (7, excA "TooMany" ["limit"] [a]), (8, excA "NothingToUndo" [] [])] := by
  generalize excA "InvalidShape" ["cell"] [th] = e0
  generalize excA "UnknownCell" ["name"] [th] = e1
  generalize excA "InvalidRow" ["index"] [a] = e2
  generalize excA "InvalidWalk" ["index"] [b] = e3
  generalize excA "InvalidNumber" ["number"] [th] = e4
  generalize excA "InvalidText" ["line", "column"] [a, b] = e5
  generalize excA "Ring" ["cells"] [c] = e6
  generalize excA "TooMany" ["limit"] [a] = e7
  generalize excA "NothingToUndo" [] [] = e8
  rfl
theorem ac0 : ("InvalidShape" : PySem.Str) ∈ allC ∧ bitsC "InvalidShape" = (rngN 9).map fun j => eqB j (0 : Int) := ⟨by decide +kernel, by decide +kernel⟩
theorem ac1 : ("UnknownCell" : PySem.Str) ∈ allC ∧ bitsC "UnknownCell" = (rngN 9).map fun j => eqB j (1 : Int) := ⟨by decide +kernel, by decide +kernel⟩
theorem ac2 : ("InvalidRow" : PySem.Str) ∈ allC ∧ bitsC "InvalidRow" = (rngN 9).map fun j => eqB j (2 : Int) := ⟨by decide +kernel, by decide +kernel⟩
theorem ac3 : ("InvalidWalk" : PySem.Str) ∈ allC ∧ bitsC "InvalidWalk" = (rngN 9).map fun j => eqB j (3 : Int) := ⟨by decide +kernel, by decide +kernel⟩
theorem ac4 : ("InvalidNumber" : PySem.Str) ∈ allC ∧ bitsC "InvalidNumber" = (rngN 9).map fun j => eqB j (4 : Int) := ⟨by decide +kernel, by decide +kernel⟩
theorem ac5 : ("InvalidText" : PySem.Str) ∈ allC ∧ bitsC "InvalidText" = (rngN 9).map fun j => eqB j (5 : Int) := ⟨by decide +kernel, by decide +kernel⟩
theorem ac6 : ("Ring" : PySem.Str) ∈ allC ∧ bitsC "Ring" = (rngN 9).map fun j => eqB j (6 : Int) := ⟨by decide +kernel, by decide +kernel⟩
theorem ac7 : ("TooMany" : PySem.Str) ∈ allC ∧ bitsC "TooMany" = (rngN 9).map fun j => eqB j (7 : Int) := ⟨by decide +kernel, by decide +kernel⟩
theorem ac8 : ("NothingToUndo" : PySem.Str) ∈ allC ∧ bitsC "NothingToUndo" = (rngN 9).map fun j => eqB j (8 : Int) := ⟨by decide +kernel, by decide +kernel⟩
theorem loop_okP (th a b c : Any) : loopO (fun (x46 : (Int × Any)) (w47 : Unit) =>
    ((p_law_classes x46.2).bind fun x49 => ((((rngG (9 : Int)).bind fun x50 => few x50 (mpO (fun (x51 : Int) => some (eqB x51 x46.1)) x50)).bind fun x54 => some (Any.of x54)).bind fun x55 => some (x55 :: ((Any.of true) :: ((Any.of true) :: [])))).bind fun x56 => neE x49 x56).bind fun x57 =>
      if x57 then
      some (Fo.rt false)
      else
      some (Fo.nx ())) (enumL ([excA "InvalidShape" ["cell"] [th], excA "UnknownCell" ["name"] [th], excA "InvalidRow" ["index"] [a], excA "InvalidWalk" ["index"] [b], excA "InvalidNumber" ["number"] [th]] ++ [excA "InvalidText" ["line", "column"] [a, b], excA "Ring" ["cells"] [c], excA "TooMany" ["limit"] [a], excA "NothingToUndo" [] []])) () = some (Fo.nx () : Fo Unit Bool) := by
  have en := en_okP th a b c ([] : List Nm)
  rw [en, step_okP ac0.1 ac0.2, step_okP ac1.1 ac1.2, step_okP ac2.1 ac2.2, step_okP ac3.1 ac3.2, step_okP ac4.1 ac4.2, step_okP ac5.1 ac5.2, step_okP ac6.1 ac6.2, step_okP ac7.1 ac7.2, step_okP ac8.1 ac8.2]
  rfl
theorem at_k {α : Type} (l : List α) (j : Nat) {x : α} (h : l[j]? = some x) : at' l (j : Int) = some x := (at_nat l j).trans h
theorem fields_okP (th a b c : Any) (nt : Nice th) (na : Nice a) (nb : Nice b) :
    (((at' ([excA "InvalidShape" ["cell"] [th], excA "UnknownCell" ["name"] [th], excA "InvalidRow" ["index"] [a], excA "InvalidWalk" ["index"] [b], excA "InvalidNumber" ["number"] [th]] ++ [excA "InvalidText" ["line", "column"] [a, b], excA "Ring" ["cells"] [c], excA "TooMany" ["limit"] [a], excA "NothingToUndo" [] []]) (0 : Int)).bind fun x59 => fxA ["InvalidShape"] "cell" x59).bind fun x60 => (((at' ([excA "InvalidShape" ["cell"] [th], excA "UnknownCell" ["name"] [th], excA "InvalidRow" ["index"] [a], excA "InvalidWalk" ["index"] [b], excA "InvalidNumber" ["number"] [th]] ++ [excA "InvalidText" ["line", "column"] [a, b], excA "Ring" ["cells"] [c], excA "TooMany" ["limit"] [a], excA "NothingToUndo" [] []]) (1 : Int)).bind fun x61 => fxA ["UnknownCell"] "name" x61).bind fun x62 => (((at' ([excA "InvalidShape" ["cell"] [th], excA "UnknownCell" ["name"] [th], excA "InvalidRow" ["index"] [a], excA "InvalidWalk" ["index"] [b], excA "InvalidNumber" ["number"] [th]] ++ [excA "InvalidText" ["line", "column"] [a, b], excA "Ring" ["cells"] [c], excA "TooMany" ["limit"] [a], excA "NothingToUndo" [] []]) (2 : Int)).bind fun x63 => fxA ["InvalidRow", "InvalidWalk"] "index" x63).bind fun x64 => (((at' ([excA "InvalidShape" ["cell"] [th], excA "UnknownCell" ["name"] [th], excA "InvalidRow" ["index"] [a], excA "InvalidWalk" ["index"] [b], excA "InvalidNumber" ["number"] [th]] ++ [excA "InvalidText" ["line", "column"] [a, b], excA "Ring" ["cells"] [c], excA "TooMany" ["limit"] [a], excA "NothingToUndo" [] []]) (3 : Int)).bind fun x65 => fxA ["InvalidRow", "InvalidWalk"] "index" x65).bind fun x66 => (((at' ([excA "InvalidShape" ["cell"] [th], excA "UnknownCell" ["name"] [th], excA "InvalidRow" ["index"] [a], excA "InvalidWalk" ["index"] [b], excA "InvalidNumber" ["number"] [th]] ++ [excA "InvalidText" ["line", "column"] [a, b], excA "Ring" ["cells"] [c], excA "TooMany" ["limit"] [a], excA "NothingToUndo" [] []]) (4 : Int)).bind fun x67 => fxA ["InvalidNumber"] "number" x67).bind fun x68 => some (x68 :: [])).bind fun l69 => some (x66 :: l69)).bind fun l70 => some (x64 :: l70)).bind fun l71 => some (x62 :: l71)).bind fun l72 => some (x60 :: l72)) = some [th, th, a, b, th] := by
  generalize hL : ([excA "InvalidShape" ["cell"] [th], excA "UnknownCell" ["name"] [th], excA "InvalidRow" ["index"] [a], excA "InvalidWalk" ["index"] [b], excA "InvalidNumber" ["number"] [th]] ++ [excA "InvalidText" ["line", "column"] [a, b], excA "Ring" ["cells"] [c], excA "TooMany" ["limit"] [a], excA "NothingToUndo" [] []]) = L
  have g0 : at' L (0 : Int) = some (excA "InvalidShape" ["cell"] [th]) := at_k L 0 (by rw [← hL]; rfl)
  have g1 : at' L (1 : Int) = some (excA "UnknownCell" ["name"] [th]) := at_k L 1 (by rw [← hL]; rfl)
  have g2 : at' L (2 : Int) = some (excA "InvalidRow" ["index"] [a]) := at_k L 2 (by rw [← hL]; rfl)
  have g3 : at' L (3 : Int) = some (excA "InvalidWalk" ["index"] [b]) := at_k L 3 (by rw [← hL]; rfl)
  have g4 : at' L (4 : Int) = some (excA "InvalidNumber" ["number"] [th]) := at_k L 4 (by rw [← hL]; rfl)
  have f0 : fxA ["InvalidShape"] "cell" (excA "InvalidShape" ["cell"] [th]) = some th := fx1 (by simp)
  have f1 : fxA ["UnknownCell"] "name" (excA "UnknownCell" ["name"] [th]) = some th := fx1 (by simp)
  have f2 : fxA ["InvalidRow", "InvalidWalk"] "index" (excA "InvalidRow" ["index"] [a]) = some a := fx1 (by simp)
  have f3 : fxA ["InvalidRow", "InvalidWalk"] "index" (excA "InvalidWalk" ["index"] [b]) = some b := fx1 (by simp)
  have f4 : fxA ["InvalidNumber"] "number" (excA "InvalidNumber" ["number"] [th]) = some th := fx1 (by simp)
  rw [g0, g1, g2, g3, g4]
  simp only [Option.bind_some]
  rw [f0, f1, f2, f3, f4]
  rfl
theorem fields2_okP (th a b c : Any) :
    (((at' ([excA "InvalidShape" ["cell"] [th], excA "UnknownCell" ["name"] [th], excA "InvalidRow" ["index"] [a], excA "InvalidWalk" ["index"] [b], excA "InvalidNumber" ["number"] [th]] ++ [excA "InvalidText" ["line", "column"] [a, b], excA "Ring" ["cells"] [c], excA "TooMany" ["limit"] [a], excA "NothingToUndo" [] []]) (5 : Int)).bind fun x75 => fxA ["InvalidText"] "line" x75).bind fun x76 => (((at' ([excA "InvalidShape" ["cell"] [th], excA "UnknownCell" ["name"] [th], excA "InvalidRow" ["index"] [a], excA "InvalidWalk" ["index"] [b], excA "InvalidNumber" ["number"] [th]] ++ [excA "InvalidText" ["line", "column"] [a, b], excA "Ring" ["cells"] [c], excA "TooMany" ["limit"] [a], excA "NothingToUndo" [] []]) (5 : Int)).bind fun x77 => fxA ["InvalidText"] "column" x77).bind fun x78 => (((at' ([excA "InvalidShape" ["cell"] [th], excA "UnknownCell" ["name"] [th], excA "InvalidRow" ["index"] [a], excA "InvalidWalk" ["index"] [b], excA "InvalidNumber" ["number"] [th]] ++ [excA "InvalidText" ["line", "column"] [a, b], excA "Ring" ["cells"] [c], excA "TooMany" ["limit"] [a], excA "NothingToUndo" [] []]) (6 : Int)).bind fun x79 => fxA ["Ring"] "cells" x79).bind fun x80 => (((at' ([excA "InvalidShape" ["cell"] [th], excA "UnknownCell" ["name"] [th], excA "InvalidRow" ["index"] [a], excA "InvalidWalk" ["index"] [b], excA "InvalidNumber" ["number"] [th]] ++ [excA "InvalidText" ["line", "column"] [a, b], excA "Ring" ["cells"] [c], excA "TooMany" ["limit"] [a], excA "NothingToUndo" [] []]) (7 : Int)).bind fun x81 => fxA ["TooMany"] "limit" x81).bind fun x82 => some (x82 :: [])).bind fun l83 => some (x80 :: l83)).bind fun l84 => some (x78 :: l84)).bind fun l85 => some (x76 :: l85)) = some [a, b, c, a] := by
  generalize hL : ([excA "InvalidShape" ["cell"] [th], excA "UnknownCell" ["name"] [th], excA "InvalidRow" ["index"] [a], excA "InvalidWalk" ["index"] [b], excA "InvalidNumber" ["number"] [th]] ++ [excA "InvalidText" ["line", "column"] [a, b], excA "Ring" ["cells"] [c], excA "TooMany" ["limit"] [a], excA "NothingToUndo" [] []]) = L
  have g0 : at' L (5 : Int) = some (excA "InvalidText" ["line", "column"] [a, b]) := at_k L 5 (by rw [← hL]; rfl)
  have g2 : at' L (6 : Int) = some (excA "Ring" ["cells"] [c]) := at_k L 6 (by rw [← hL]; rfl)
  have g3 : at' L (7 : Int) = some (excA "TooMany" ["limit"] [a]) := at_k L 7 (by rw [← hL]; rfl)
  have f0 : fxA ["InvalidText"] "line" (excA "InvalidText" ["line", "column"] [a, b]) = some a := fxA_exc (by simp) (by
    show (if ("column" : PySem.Str) = "line" then some b.d else if ("line" : PySem.Str) = "line" then some a.d else none) = some a.d
    rw [if_neg (by decide +kernel), if_pos rfl])
  have f1 : fxA ["InvalidText"] "column" (excA "InvalidText" ["line", "column"] [a, b]) = some b := fxA_exc (by simp) (by
    show (if ("column" : PySem.Str) = "column" then some b.d else if ("line" : PySem.Str) = "column" then some a.d else none) = some b.d
    rw [if_pos rfl])
  have f2 : fxA ["Ring"] "cells" (excA "Ring" ["cells"] [c]) = some c := fx1 (by simp)
  have f3 : fxA ["TooMany"] "limit" (excA "TooMany" ["limit"] [a]) = some a := fx1 (by simp)
  rw [g0, g2, g3]
  simp only [Option.bind_some]
  rw [f0, f1, f2, f3]
  rfl
theorem law_ok (ns : List Int) : p_law ⟨ns⟩ = some true := by
  delta p_law
  have e3 : rngG (3 : Int) = some (rngN 3) := rngG_nat (n := 3) (by decide)
  rw [e3, Option.bind_some]
  refine loopO_bind (fun o => o = some true) (fun _ _ => True) trivial ?_ (fun _ _ => rfl)
  rintro j x w hx _
  obtain ⟨x0, x1⟩ := rngN_mem.mp (List.mem_of_getElem? hx)
  obtain ⟨i, rfl⟩ := Int.eq_ofNat_of_zero_le x0
  have hi : i < 3 := by omega
  obtain ⟨d, q1, hp⟩ := pile_okP ns i (by omega)
  obtain ⟨r1, d1, t1, a0, a1, p1⟩ := take_okP hp (by omega) (show (0 : Int) < 9 by decide) (by decide)
  obtain ⟨l, d2, n1, ln, _, _, p2⟩ := names_okP (n := (1 + r1).toNat) p1 (by omega) (by omega)
  have n2 : p_law_names d1 (1 + r1) = some (l, d2) := by
    rw [show (1 + r1 : Int) = ((1 + r1).toNat : Int) by omega]
    exact n1
  obtain ⟨z0, h0, _⟩ := at_lt (l := l) (i := 0) (by decide) (by omega)
  obtain ⟨xl, hxl⟩ : ∃ xl, l.getLast? = some xl := by
    cases l with
    | nil => simp at ln; omega
    | cons a l => exact ⟨_, List.getLast?_cons ..⟩
  have h1 : at' l (-(1 : Int)) = some xl := (at_last l).trans hxl
  have p9 : powI (10 : Int) (9 : Int) = some 1000000000 := if_pos (by decide)
  obtain ⟨r2, d3, t2, b0, b1, p3⟩ := take_okP p2 (by omega) (show (0 : Int) < 1000000000 by decide) (by decide)
  obtain ⟨r3, d4, t3, c0, c1, p4⟩ := take_okP p3 (by omega) (show (0 : Int) < 5 by decide) (by decide)
  obtain ⟨r4, d5, t4, f0, f1, p5⟩ := take_okP p4 (by omega) (show (0 : Int) < 99 by decide) (by decide)
  obtain ⟨r5, d6, t5, g0, g1, p6⟩ := take_okP p5 (by omega) (show (0 : Int) < 2000 by decide) (by decide)
  obtain ⟨r6, d7, t6, k0, k1, p7⟩ := take_okP p6 (by omega) (show (0 : Int) < 2 by decide) (by decide)
  obtain ⟨th, h2, hth⟩ := at_lt (l := [Any.of z0, Any.of (), Any.of r2, Any.of [xl], Any.of true]) (i := r3) c0 (by simpa using c1)
  have nth : Nice th := by
    simp only [List.mem_cons, List.not_mem_nil, or_false] at hth
    rcases hth with rfl | rfl | rfl | rfl | rfl <;> exact nice_of _
  obtain ⟨col, h3, _⟩ := at_lt (l := [none, some r5]) (i := r6) k0 (by simpa using k1)
  simp only [q1, t1, Option.bind_some, n2, h0, h1, p9, t2, t3, h2, Option.map_some, t4, t5, t6, h3]
  refine ⟨(), ?_, trivial⟩
  rw [addL_ok (by show 9 ≤ 1000000; decide), Option.bind_some]
  rw [loop_okP]
  simp only [Option.bind_some, foB]
  rw [fields_okP th (Any.of r4) (Any.of col) (Any.of l) nth (nice_of _) (nice_of _), fields2_okP]
  simp only [Option.bind_some]
  rw [neE_self (fun x hx => by
    simp only [List.mem_cons, List.not_mem_nil, or_false] at hx
    rcases hx with rfl | rfl | rfl | rfl | rfl <;> first | exact nth | exact nice_of _)]
  simp only [Option.bind_some, Bool.false_eq_true, if_false]
  rw [neE_self (fun x hx => by
    simp only [List.mem_cons, List.not_mem_nil, or_false] at hx
    rcases hx with rfl | rfl | rfl | rfl <;> exact nice_of _)]
  simp only [Option.bind_some, Bool.false_eq_true, if_false]
  rw [ring_right_okP (by omega)]
  rfl
end VK
namespace VK
open PySem L2 PyProof.Rows VI
def T_0 : Tab := ⟨fun x => none, fun _ _ _ => none, 1000000⟩
theorem sc_law_pile : FnScope ["_law_script", "_law_k", "_law_cell", "_law_great"] ["_law_script", "_law_k"] (defScope (top 13)) := ⟨rfl, rfl, rfl, by decide +kernel, rfl, by decide +kernel, by decide +kernel⟩
def F_law_pile : List D → List RO → Option CR := runF T_0 2 4 [] c_law_pile
def T_law_pile : Tab := T_0.ext 1 F_law_pile
theorem ok_law_pile {P : Program} {w : World} {K : PySem.W.Frag} {mg : Str → Option Value} {base : Heap} {ct : CT} {fa : Addr} {fd : FuncData} (F : FunD K "_law_pile" "_law_pile" (defArgs (top 13)) (defBody (top 13)) (defScope (top 13)) [] [] fa fd) (f_len : mg "len" = none) (f_int : mg "int" = none) (f_abs : mg "abs" = none) :
    Dg P w K mg base ct 1 fa 2 F_law_pile := by
  refine dg_of (N := ["_law_script", "_law_k", "_law_cell", "_law_great"]) (ps := ["_law_script", "_law_k"]) (k := 0) (Pn := []) (T := T_0) (body := c_law_pile) F sc_law_pile rfl rfl (F.bindsN fun _ _ _ _ _ _ us hl => match us, hl with | [_, _], _ => rfl) fun cdv A outer s H E hr => ?_
  have G := xg_of (X := cxOf (L2.CX P w) P w K mg base ["_law_script", "_law_k", "_law_cell", "_law_great"] "_law_pile" (defScope (top 13)) fa cdv A outer s H E) rfl sc_law_pile.nd hr
  have tk := takes_of (X := cxOf (L2.CX P w) P w K mg base ["_law_script", "_law_k", "_law_cell", "_law_great"] "_law_pile" (defScope (top 13)) fa cdv A outer s H E) rfl rfl rfl rfl
  have hp := passes_of (X := cxOf (L2.CX P w) P w K mg base ["_law_script", "_law_k", "_law_cell", "_law_great"] "_law_pile" (defScope (top 13)) fa cdv A outer s H E) rfl
  exact (r_cons (r_set G rfl (.inl rfl) (gq ki))
  (r_cons (r_if (t_of (kv_q (k_cmp o_lt (vq vt) (q_len f_len (vq vt))))) (r_cons (r_set G rfl (.inl rfl) (gq (q_ix (vq vt) (vq vt))))
  r_nil) r_nil)
  (r_cons (r_set G rfl (.inl rfl) (g_bin o_mod (aq (q_int f_int (vq vt))) (ag (g_bin o_mul (ag (g_bin o_mul (aq (q_bin o_pow ki ki)) (aq (q_bin o_pow ki ki)))) (aq (q_bin o_pow ki ki))))))
  (r_cons (r_ret (g_lst (pfs_cons (g_bin o_mul (va vt) (aq (q_int f_int (q_of (k_cmp o_ge (q_abs f_abs (vq vt)) (q_bin o_pow ki ki)))))) (pfs_cons (gq (q_bin o_mod (q_int f_int (vq vt)) ki)) (pfs_cons (g_bin o_mul (aq ki) (va vt)) pfs_nil)))))
  r_nil))))
theorem sc_law_mixed : FnScope ["_law_cell", "_law_k", "_law_number"] ["_law_cell", "_law_k"] (defScope (top 12)) := ⟨rfl, rfl, rfl, by decide +kernel, rfl, by decide +kernel, by decide +kernel⟩
def F_law_mixed : List D → List RO → Option CR := runF T_law_pile 2 3 [] c_law_mixed
def T_law_mixed : Tab := T_law_pile.ext 2 F_law_mixed
theorem ok_law_mixed {P : Program} {w : World} {K : PySem.W.Frag} {mg : Str → Option Value} {base : Heap} {ct : CT} {fa : Addr} {fd : FuncData} (F : FunD K "_law_mixed" "_law_mixed" (defArgs (top 12)) (defBody (top 12)) (defScope (top 12)) [] [] fa fd) (f_int : mg "int" = none) :
    Dg P w K mg base ct 1 fa 2 F_law_mixed := by
  refine dg_of (N := ["_law_cell", "_law_k", "_law_number"]) (ps := ["_law_cell", "_law_k"]) (k := 0) (Pn := []) (T := T_law_pile) (body := c_law_mixed) F sc_law_mixed rfl rfl (F.bindsN fun _ _ _ _ _ _ us hl => match us, hl with | [_, _], _ => rfl) fun cdv A outer s H E hr => ?_
  have G := xg_of (X := cxOf (L2.CX P w) P w K mg base ["_law_cell", "_law_k", "_law_number"] "_law_mixed" (defScope (top 12)) fa cdv A outer s H E) rfl sc_law_mixed.nd hr
  have tk := takes_of (X := cxOf (L2.CX P w) P w K mg base ["_law_cell", "_law_k", "_law_number"] "_law_mixed" (defScope (top 12)) fa cdv A outer s H E) rfl rfl rfl rfl
  have hp := passes_of (X := cxOf (L2.CX P w) P w K mg base ["_law_cell", "_law_k", "_law_number"] "_law_mixed" (defScope (top 12)) fa cdv A outer s H E) rfl
  exact (r_cons (r_set G rfl (.inl rfl) (g_bin o_mod (ag (g_bin o_add (ag (g_bin o_add (ag (g_bin o_mul (aq (q_bin o_mod (q_int f_int (vq vt)) ki)) (aq ki))) (ag (g_bin o_mul (va vt) (aq ki))))) (aq ki))) (aq ki)))
  (r_cons (r_set G rfl (.inl rfl) (g_bin o_mod (ag (g_bin o_mul (va vt) (va vt))) (aq ki)))
  (r_cons (r_ret (g_bin o_fdiv (ag (g_bin o_mod (ag (g_bin o_mul (va vt) (va vt))) (aq ki))) (aq ki)))
  r_nil)))
theorem sc_law_take : FnScope ["_law_pile_here", "_law_many", "_law_digit"] ["_law_pile_here", "_law_many"] (defScope (top 14)) := ⟨rfl, rfl, rfl, by decide +kernel, rfl, by decide +kernel, by decide +kernel⟩
def F_law_take : List D → List RO → Option CR := runF T_law_mixed 2 3 [0] c_law_take
def T_law_take : Tab := T_law_mixed.ext 3 F_law_take
theorem ok_law_take {P : Program} {w : World} {K : PySem.W.Frag} {mg : Str → Option Value} {base : Heap} {ct : CT} {fa a__law_mixed : Addr} {fd : FuncData} (F : FunD K "_law_take" "_law_take" (defArgs (top 14)) (defBody (top 14)) (defScope (top 14)) [] [] fa fd) (d__law_mixed : Dg P w K mg base ct 1 a__law_mixed 2 F_law_mixed) (g__law_mixed : mg "_law_mixed" = some (.ref a__law_mixed)) (f_int : mg "int" = none) :
    Dg P w K mg base ct 2 fa 2 F_law_take := by
  refine dg_of (N := ["_law_pile_here", "_law_many", "_law_digit"]) (ps := ["_law_pile_here", "_law_many"]) (k := 1) (Pn := [0]) (T := T_law_mixed) (body := c_law_take) F sc_law_take rfl rfl (F.bindsN fun _ _ _ _ _ _ us hl => match us, hl with | [_, _], _ => rfl) fun cdv A outer s H E hr => ?_
  have G := xg_of (X := cxOf (L2.CX P w) P w K mg base ["_law_pile_here", "_law_many", "_law_digit"] "_law_take" (defScope (top 14)) fa cdv A outer s H E) rfl sc_law_take.nd hr
  have tk := takes_of (X := cxOf (L2.CX P w) P w K mg base ["_law_pile_here", "_law_many", "_law_digit"] "_law_take" (defScope (top 14)) fa cdv A outer s H E) rfl rfl rfl rfl
  have hp := passes_of (X := cxOf (L2.CX P w) P w K mg base ["_law_pile_here", "_law_many", "_law_digit"] "_law_take" (defScope (top 14)) fa cdv A outer s H E) rfl
  exact (r_cons (r_if (t_of (kv_q (k_cmp (o_eq (G).h64) (q_ix (vq vt) ki) ki))) (r_cons (r_setl vt (gq ki) (g_bin o_add (aq (q_ix (vq vt) ki)) (aq ki)))
  (r_cons (r_ret (g_bin o_mod (ag (g_call (df_of d__law_mixed rfl hr (by decide)) tk rfl g__law_mixed (pgs_cons (gg (gq (q_ix (vq vt) ki))) (pgs_cons (gg (gq (q_ix (vq vt) ki))) pgs_nil)))) (va vt)))
  r_nil)) r_nil)
  (r_cons (r_set G rfl (.inl rfl) (gq (q_bin o_mod (q_int f_int (q_ix (vq vt) ki)) (vq vt))))
  (r_cons (r_setl vt (gq ki) (gq (q_bin o_fdiv (q_ix (vq vt) ki) (vq vt))))
  (r_cons (r_ret (vm vt))
  r_nil))))
theorem sc_law_names : FnScope ["_law_pile_here", "_law_many", "_law_letters", "_law_stem", "_law_at", "_law_shift", "_law_step", "_law_tail", "_law_some", "_law_plain", "_law_k", "_law_name"] ["_law_pile_here", "_law_many"] (defScope (top 15)) := ⟨rfl, rfl, rfl, by decide +kernel, rfl, by decide +kernel, by decide +kernel⟩
def F_law_names : List D → List RO → Option CR := runF T_law_take 2 12 [0] c_law_names
def T_law_names : Tab := T_law_take.ext 4 F_law_names
theorem ok_law_names {P : Program} {w : World} {K : PySem.W.Frag} {mg : Str → Option Value} {base : Heap} {ct : CT} {fa a__law_take : Addr} {fd : FuncData} (F : FunD K "_law_names" "_law_names" (defArgs (top 15)) (defBody (top 15)) (defScope (top 15)) [] [] fa fd) (d__law_take : Dg P w K mg base ct 2 a__law_take 2 F_law_take) (g__law_take : mg "_law_take" = some (.ref a__law_take)) (f_range : mg "range" = none) (f_len : mg "len" = none) (f_int : mg "int" = none) (f_enumerate : mg "enumerate" = none) :
    Dg P w K mg base ct 3 fa 2 F_law_names := by
  refine dg_of (N := ["_law_pile_here", "_law_many", "_law_letters", "_law_stem", "_law_at", "_law_shift", "_law_step", "_law_tail", "_law_some", "_law_plain", "_law_k", "_law_name"]) (ps := ["_law_pile_here", "_law_many"]) (k := 2) (Pn := [0]) (T := T_law_take) (body := c_law_names) F sc_law_names rfl rfl (F.bindsN fun _ _ _ _ _ _ us hl => match us, hl with | [_, _], _ => rfl) fun cdv A outer s H E hr => ?_
  have G := xg_of (X := cxOf (L2.CX P w) P w K mg base ["_law_pile_here", "_law_many", "_law_letters", "_law_stem", "_law_at", "_law_shift", "_law_step", "_law_tail", "_law_some", "_law_plain", "_law_k", "_law_name"] "_law_names" (defScope (top 15)) fa cdv A outer s H E) rfl sc_law_names.nd hr
  have tk := takes_of (X := cxOf (L2.CX P w) P w K mg base ["_law_pile_here", "_law_many", "_law_letters", "_law_stem", "_law_at", "_law_shift", "_law_step", "_law_tail", "_law_some", "_law_plain", "_law_k", "_law_name"] "_law_names" (defScope (top 15)) fa cdv A outer s H E) rfl rfl rfl rfl
  have hp := passes_of (X := cxOf (L2.CX P w) P w K mg base ["_law_pile_here", "_law_many", "_law_letters", "_law_stem", "_law_at", "_law_shift", "_law_step", "_law_tail", "_law_some", "_law_plain", "_law_k", "_law_name"] "_law_names" (defScope (top 15)) fa cdv A outer s H E) rfl
  exact (r_cons (r_set G rfl (.inr rfl) (gq ks))
  (r_cons (r_set G rfl (.inr rfl) (g_joi (g_lc (own := [("_law_k", 10)]) G (s_rng1 rfl f_range (g_call (df_of d__law_take rfl hr (by decide)) tk rfl g__law_take (pgs_cons (pg_io vt) (pgs_cons (gg (gq ki)) pgs_nil)))) gb1 rfl (blkOk_by (by kernel_rfl)) (fun _ _ _ _ _ => (tg1 (xg_blk G))) (fun _ _ _ _ _ => pcs_nil) (fun _ _ _ _ _ => (g_ix (va vt) (ag (g_call (df_of d__law_take rfl hr (by decide)) L2.takes0 rfl g__law_take (pgs_cons (pg_io vt) (pgs_cons (gg (gq ki)) pgs_nil)))))))))
  (r_cons (r_set G rfl (.inr rfl) (g_call (df_of d__law_take rfl hr (by decide)) tk rfl g__law_take (pgs_cons (pg_io vt) (pgs_cons (gg (g_bin o_add (aq (q_len f_len (vq vt))) (aq ki))) pgs_nil))))
  (r_cons (r_set G rfl (.inr rfl) (g_call (df_of d__law_take rfl hr (by decide)) tk rfl g__law_take (pgs_cons (pg_io vt) (pgs_cons (gg (gq ki)) pgs_nil))))
  (r_cons (r_set G rfl (.inr rfl) (g_ix (ag (g_lst (pfs_cons (gq ki) (pfs_cons (gq ki) (pfs_cons (gq ki) (pfs_cons (gq ki) (pfs_cons (gq ki) (pfs_cons (gq ki) (pfs_cons (gq ki) (pfs_cons (gq ki) (pfs_cons (gq ki) (pfs_cons (gq ki) (pfs_cons (gq ki) (pfs_cons (gq ki) pfs_nil)))))))))))))) (ag (g_call (df_of d__law_take rfl hr (by decide)) tk rfl g__law_take (pgs_cons (pg_io vt) (pgs_cons (gg (gq ki)) pgs_nil))))))
  (r_cons (r_if (ptc_w (pwc_and (t_of (kv_q (k_cmp (o_eq (G).h64) (q_bin o_mod (vq vt) ki) ki))) (pwc_and1 (t_of (kv_q (k_cmp o_lt (vq vt) ki)))))) (r_cons (r_set G rfl (.inl rfl) (g_lst (pfs_cons (gq ks) (pfs_cons (gq ks) (pfs_cons (gq ks) (pfs_cons (gq ks) (pfs_cons (gq ks) (pfs_cons (gq ks) (pfs_cons (gq ks) (pfs_cons (gq ks) (pfs_cons (gq ks) (pfs_cons (gq ks) (pfs_cons (gq ks) (pfs_cons (gq ks) (pfs_cons (gq ks) (pfs_cons (gq ks) (pfs_cons (gq ks) pfs_nil)))))))))))))))))
  (r_cons (r_ret (sl01 (ag (g_bin o_add (ag (sl10 (va vt) (g_bin o_add (aq (q_bin o_fdiv (vq vt) ki)) (aq (q_bin o_mod (vq vt) ki))))) (va vt))) (vf vt)))
  r_nil)) r_nil)
  (r_cons (r_set G rfl (.inr rfl) (g_bin o_mul (aq ks) (aq (q_int f_int (q_of (k_cmp o_lt (q_len f_len (vq vt)) ki))))))
  (r_cons (r_setLc (own := [("_law_k", 10)]) G rfl rfl (sw_true rfl rfl rfl rfl) (s_rng1 rfl f_range (vf vt)) gb1 rfl (blkOk_by (by kernel_rfl)) (fun _ _ _ _ _ => (tg1 (xg_blk G))) (fun _ _ _ _ _ => pcs_nil) (fun _ _ _ _ _ => (g_bin o_add (ag (g_bin o_add (ag (sl01 (va vt) (vf vt))) (ag (g_ix (va vt) (ag (g_bin o_mod (ag (g_bin o_add (va vt) (ag (g_bin o_mul (va vt) (va vt))))) (aq ki))))))) (ag (sl10 (va vt) (vf vt))))))
  (r_cons (r_ret (g_lc (own := [("_law_k", 10), ("_law_name", 11)]) G (s_enum rfl f_enumerate (vf vt)) gb2 rfl (blkOk_by (by kernel_rfl)) (fun _ _ _ _ _ => (tg2 (xg_blk G) (tg1 (xg_blk G)) (tg1 (xg_blk G)))) (fun _ _ _ _ _ => pcs_nil) (fun _ _ _ _ _ => (g_bin o_add (va vt) (ag (g_bin o_mul (va vt) (aq (q_bin o_mod (vq vt) ki))))))))
  r_nil)))))))))
theorem sc_law_ring_right_3 : FnScope ["_law_names_here", "_law_handed", "_law_error"] ["_law_names_here"] (defScope (top 17)) := ⟨rfl, rfl, rfl, by decide +kernel, rfl, by decide +kernel, by decide +kernel⟩
def F_law_ring_right_3 : List D → List RO → Option CR := runF T_law_names 1 3 [] c_law_ring_right_3
def T_law_ring_right_3 : Tab := T_law_names.ext 356 F_law_ring_right_3
theorem ok_law_ring_right_3 {P : Program} {w : World} {K : PySem.W.Frag} {mg : Str → Option Value} {base : Heap} {ct : CT} {fa : Addr} {fd : FuncData} (F : FunD K "_law_ring_right" "_law_ring_right" (defArgs (top 17)) (defBody (top 17)) (defScope (top 17)) [] [] fa fd) (f_list : mg "list" = none) (g_Ring : mg "Ring" = some (.ref (ct "Ring"))) (x_Ring : Dx P w K mg base ct "Ring" ["cells"] true) (fx_cells : FxF K ct ["Ring"] "cells") :
    Dg P w K mg base ct 3 fa 1 F_law_ring_right_3 := by
  refine dg_of (N := ["_law_names_here", "_law_handed", "_law_error"]) (ps := ["_law_names_here"]) (k := 2) (Pn := []) (T := T_law_names) (body := c_law_ring_right_3) F sc_law_ring_right_3 rfl rfl (F.bindsN fun _ _ _ _ _ _ us hl => match us, hl with | [_], _ => rfl) fun cdv A outer s H E hr => ?_
  have G := xg_of (X := cxOf (L2.CX P w) P w K mg base ["_law_names_here", "_law_handed", "_law_error"] "_law_ring_right" (defScope (top 17)) fa cdv A outer s H E) rfl sc_law_ring_right_3.nd hr
  have tk := takes_of (X := cxOf (L2.CX P w) P w K mg base ["_law_names_here", "_law_handed", "_law_error"] "_law_ring_right" (defScope (top 17)) fa cdv A outer s H E) rfl rfl rfl rfl
  have hp := passes_of (X := cxOf (L2.CX P w) P w K mg base ["_law_names_here", "_law_handed", "_law_error"] "_law_ring_right" (defScope (top 17)) fa cdv A outer s H E) rfl
  exact (r_cons (r_set G rfl (.inl rfl) (g_list f_list (va vt)))
  (r_cons (r_set G rfl (.inl rfl) (g_mkrQ (xk_of x_Ring hr (by decide)) tk rfl g_Ring (vq vt)))
  (r_cons (r_ex (g_app vt (gq ks)))
  (r_cons (r_if (t_of (kv_q (k_cmp (o_ne (G).h64) (q_fx fx_cells (vq vt)) (vq vt)))) (r_cons (r_ret (gq kb))
  r_nil) r_nil)
  (r_cons (r_ex (g_apX fx_cells vt ks))
  (r_cons (r_ret (g_of (kv_cmp (o_eq (G).h64) (va vt) (ag (g_bin o_add (va vt) (ag (g_lst (pfs_cons (gq ks) pfs_nil))))))))
  r_nil))))))
theorem sc_law_classes : FnScope ["_law_error", "_law_some"] ["_law_error"] (defScope (top 16)) := ⟨rfl, rfl, rfl, by decide +kernel, rfl, by decide +kernel, by decide +kernel⟩
def F_law_classes : List D → List RO → Option CR := runF T_law_ring_right_3 1 2 [] c_law_classes
def T_law_classes : Tab := T_law_ring_right_3.ext 352 F_law_classes
theorem ok_law_classes {P : Program} {w : World} {K : PySem.W.Frag} {mg : Str → Option Value} {base : Heap} {ct : CT} {fa : Addr} {fd : FuncData} (F : FunD K "_law_classes" "_law_classes" (defArgs (top 16)) (defBody (top 16)) (defScope (top 16)) [] [] fa fd) (f_isinstance : mg "isinstance" = none) (isx_InvalidShape : IsxF K ct ["InvalidShape", "UnknownCell", "InvalidRow", "InvalidWalk", "InvalidNumber", "InvalidText", "Ring", "TooMany", "NothingToUndo"] ["InvalidShape"] (.ref (ct "InvalidShape"))) (g_InvalidShape : mg "InvalidShape" = some (.ref (ct "InvalidShape"))) (isx_UnknownCell : IsxF K ct ["InvalidShape", "UnknownCell", "InvalidRow", "InvalidWalk", "InvalidNumber", "InvalidText", "Ring", "TooMany", "NothingToUndo"] ["UnknownCell"] (.ref (ct "UnknownCell"))) (g_UnknownCell : mg "UnknownCell" = some (.ref (ct "UnknownCell"))) (isx_InvalidRow : IsxF K ct ["InvalidShape", "UnknownCell", "InvalidRow", "InvalidWalk", "InvalidNumber", "InvalidText", "Ring", "TooMany", "NothingToUndo"] ["InvalidRow"] (.ref (ct "InvalidRow"))) (g_InvalidRow : mg "InvalidRow" = some (.ref (ct "InvalidRow"))) (isx_InvalidWalk : IsxF K ct ["InvalidShape", "UnknownCell", "InvalidRow", "InvalidWalk", "InvalidNumber", "InvalidText", "Ring", "TooMany", "NothingToUndo"] ["InvalidWalk"] (.ref (ct "InvalidWalk"))) (g_InvalidWalk : mg "InvalidWalk" = some (.ref (ct "InvalidWalk"))) (isx_InvalidNumber : IsxF K ct ["InvalidShape", "UnknownCell", "InvalidRow", "InvalidWalk", "InvalidNumber", "InvalidText", "Ring", "TooMany", "NothingToUndo"] ["InvalidNumber"] (.ref (ct "InvalidNumber"))) (g_InvalidNumber : mg "InvalidNumber" = some (.ref (ct "InvalidNumber"))) (isx_InvalidText : IsxF K ct ["InvalidShape", "UnknownCell", "InvalidRow", "InvalidWalk", "InvalidNumber", "InvalidText", "Ring", "TooMany", "NothingToUndo"] ["InvalidText"] (.ref (ct "InvalidText"))) (g_InvalidText : mg "InvalidText" = some (.ref (ct "InvalidText"))) (isx_Ring : IsxF K ct ["InvalidShape", "UnknownCell", "InvalidRow", "InvalidWalk", "InvalidNumber", "InvalidText", "Ring", "TooMany", "NothingToUndo"] ["Ring"] (.ref (ct "Ring"))) (g_Ring : mg "Ring" = some (.ref (ct "Ring"))) (isx_TooMany : IsxF K ct ["InvalidShape", "UnknownCell", "InvalidRow", "InvalidWalk", "InvalidNumber", "InvalidText", "Ring", "TooMany", "NothingToUndo"] ["TooMany"] (.ref (ct "TooMany"))) (g_TooMany : mg "TooMany" = some (.ref (ct "TooMany"))) (isx_NothingToUndo : IsxF K ct ["InvalidShape", "UnknownCell", "InvalidRow", "InvalidWalk", "InvalidNumber", "InvalidText", "Ring", "TooMany", "NothingToUndo"] ["NothingToUndo"] (.ref (ct "NothingToUndo"))) (g_NothingToUndo : mg "NothingToUndo" = some (.ref (ct "NothingToUndo"))) (isx_SheetError : IsxF K ct ["InvalidShape", "UnknownCell", "InvalidRow", "InvalidWalk", "InvalidNumber", "InvalidText", "Ring", "TooMany", "NothingToUndo"] ["InvalidShape", "UnknownCell", "InvalidRow", "InvalidWalk", "InvalidNumber", "InvalidText", "Ring", "TooMany", "NothingToUndo"] (.ref (ct "SheetError"))) (g_SheetError : mg "SheetError" = some (.ref (ct "SheetError"))) (isx_ValueError : IsxF K ct ["InvalidShape", "UnknownCell", "InvalidRow", "InvalidWalk", "InvalidNumber", "InvalidText", "Ring", "TooMany", "NothingToUndo"] ["InvalidShape", "UnknownCell", "InvalidRow", "InvalidWalk", "InvalidNumber", "InvalidText", "Ring", "TooMany", "NothingToUndo"] (.type "ValueError")) (f_ValueError : mg "ValueError" = none) :
    Dg P w K mg base ct 1 fa 1 F_law_classes := by
  refine dg_of (N := ["_law_error", "_law_some"]) (ps := ["_law_error"]) (k := 0) (Pn := []) (T := T_law_ring_right_3) (body := c_law_classes) F sc_law_classes rfl rfl (F.bindsN fun _ _ _ _ _ _ us hl => match us, hl with | [_], _ => rfl) fun cdv A outer s H E hr => ?_
  have G := xg_of (X := cxOf (L2.CX P w) P w K mg base ["_law_error", "_law_some"] "_law_classes" (defScope (top 16)) fa cdv A outer s H E) rfl sc_law_classes.nd hr
  have tk := takes_of (X := cxOf (L2.CX P w) P w K mg base ["_law_error", "_law_some"] "_law_classes" (defScope (top 16)) fa cdv A outer s H E) rfl rfl rfl rfl
  have hp := passes_of (X := cxOf (L2.CX P w) P w K mg base ["_law_error", "_law_some"] "_law_classes" (defScope (top 16)) fa cdv A outer s H E) rfl
  exact (r_cons (r_set G rfl (.inl rfl) (g_lst (pfs_cons (gq (q_isx rfl f_isinstance (vq vt) rfl g_InvalidShape isx_InvalidShape)) (pfs_cons (gq (q_isx rfl f_isinstance (vq vt) rfl g_UnknownCell isx_UnknownCell)) (pfs_cons (gq (q_isx rfl f_isinstance (vq vt) rfl g_InvalidRow isx_InvalidRow)) pfs_nil)))))
  (r_cons (r_set G rfl (.inl rfl) (g_bin o_add (va vt) (ag (g_lst (pfs_cons (gq (q_isx rfl f_isinstance (vq vt) rfl g_InvalidWalk isx_InvalidWalk)) (pfs_cons (gq (q_isx rfl f_isinstance (vq vt) rfl g_InvalidNumber isx_InvalidNumber)) (pfs_cons (gq (q_isx rfl f_isinstance (vq vt) rfl g_InvalidText isx_InvalidText)) pfs_nil)))))))
  (r_cons (r_set G rfl (.inl rfl) (g_bin o_add (va vt) (ag (g_lst (pfs_cons (gq (q_isx rfl f_isinstance (vq vt) rfl g_Ring isx_Ring)) (pfs_cons (gq (q_isx rfl f_isinstance (vq vt) rfl g_TooMany isx_TooMany)) (pfs_cons (gq (q_isx rfl f_isinstance (vq vt) rfl g_NothingToUndo isx_NothingToUndo)) pfs_nil)))))))
  (r_cons (r_ret (g_lst (pfs_cons (vf vt) (pfs_cons (gq (q_isx rfl f_isinstance (vq vt) rfl g_SheetError isx_SheetError)) (pfs_cons (gq (q_isxT rfl f_isinstance (vq vt) rfl f_ValueError (by decide +kernel) isx_ValueError)) pfs_nil)))))
  r_nil))))
theorem sc_law_68 : FnScope ["_law_script", "_law_at", "_law_pile_here", "_law_names_here", "_law_thing", "_law_made", "_law_told", "_law_line", "_law_column", "_law_k", "_law_error", "_law_j"] ["_law_script"] (defScope (top 18)) := ⟨rfl, rfl, rfl, by decide +kernel, rfl, by decide +kernel, by decide +kernel⟩
theorem ok_law_68 {P : Program} {w : World} {K : PySem.W.Frag} {mg : Str → Option Value} {base : Heap} {ct : CT} {fa a__law_classes a__law_names a__law_pile a__law_ring_right a__law_take : Addr} {fd : FuncData} (F : FunD K "law" "law" (defArgs (top 18)) (defBody (top 18)) (defScope (top 18)) [] [] fa fd) (f_range : mg "range" = none) (d__law_pile : Dg P w K mg base ct 1 a__law_pile 2 F_law_pile) (g__law_pile : mg "_law_pile" = some (.ref a__law_pile)) (d__law_take : Dg P w K mg base ct 2 a__law_take 2 F_law_take) (g__law_take : mg "_law_take" = some (.ref a__law_take)) (d__law_names : Dg P w K mg base ct 3 a__law_names 2 F_law_names) (g__law_names : mg "_law_names" = some (.ref a__law_names)) (g_InvalidShape : mg "InvalidShape" = some (.ref (ct "InvalidShape"))) (x_InvalidShape : Dx P w K mg base ct "InvalidShape" ["cell"] false) (g_UnknownCell : mg "UnknownCell" = some (.ref (ct "UnknownCell"))) (x_UnknownCell : Dx P w K mg base ct "UnknownCell" ["name"] false) (g_InvalidRow : mg "InvalidRow" = some (.ref (ct "InvalidRow"))) (x_InvalidRow : Dx P w K mg base ct "InvalidRow" ["index"] false) (g_InvalidWalk : mg "InvalidWalk" = some (.ref (ct "InvalidWalk"))) (x_InvalidWalk : Dx P w K mg base ct "InvalidWalk" ["index"] false) (g_InvalidNumber : mg "InvalidNumber" = some (.ref (ct "InvalidNumber"))) (x_InvalidNumber : Dx P w K mg base ct "InvalidNumber" ["number"] false) (g_InvalidText : mg "InvalidText" = some (.ref (ct "InvalidText"))) (x_InvalidText : Dx P w K mg base ct "InvalidText" ["line", "column"] false) (g_Ring : mg "Ring" = some (.ref (ct "Ring"))) (x_Ring : Dx P w K mg base ct "Ring" ["cells"] true) (g_TooMany : mg "TooMany" = some (.ref (ct "TooMany"))) (x_TooMany : Dx P w K mg base ct "TooMany" ["limit"] false) (g_NothingToUndo : mg "NothingToUndo" = some (.ref (ct "NothingToUndo"))) (x_NothingToUndo : Dx P w K mg base ct "NothingToUndo" [] false) (f_enumerate : mg "enumerate" = none) (d__law_classes : Dg P w K mg base ct 1 a__law_classes 1 F_law_classes) (g__law_classes : mg "_law_classes" = some (.ref a__law_classes)) (fx_cell : FxF K ct ["InvalidShape"] "cell") (fx_name : FxF K ct ["UnknownCell"] "name") (fx_index : FxF K ct ["InvalidRow", "InvalidWalk"] "index") (fx_number : FxF K ct ["InvalidNumber"] "number") (fx_line : FxF K ct ["InvalidText"] "line") (fx_column : FxF K ct ["InvalidText"] "column") (fx_cells : FxF K ct ["Ring"] "cells") (fx_limit : FxF K ct ["TooMany"] "limit") (d__law_ring_right : Dg P w K mg base ct 3 a__law_ring_right 1 F_law_ring_right_3) (g__law_ring_right : mg "_law_ring_right" = some (.ref a__law_ring_right))
    (plain : ∀ ns : List Int, ns.length ≤ 63 → ∃ s, execs T_law_classes [] c_law_68 ⟨some (.scr ns) :: List.replicate (12 - 1) none, []⟩ = some (.ok (.rt (.bl true)) s)) :
    FnOk P w K mg base CX0 4 fa fd ["_law_script"] (spL K 63) := by
  refine law_okV (N := ["_law_script", "_law_at", "_law_pile_here", "_law_names_here", "_law_thing", "_law_made", "_law_told", "_law_line", "_law_column", "_law_k", "_law_error", "_law_j"]) (k := 3) (ct := ct) (T := T_law_classes) (body := c_law_68) F sc_law_68 rfl (fun cdv A outer s H E hr => ?_) plain
  have G := xg_of (X := cxOf CX0 P w K mg base ["_law_script", "_law_at", "_law_pile_here", "_law_names_here", "_law_thing", "_law_made", "_law_told", "_law_line", "_law_column", "_law_k", "_law_error", "_law_j"] "law" (defScope (top 18)) fa cdv A outer s H E) rfl sc_law_68.nd hr
  have tk : Takes (cxOf CX0 P w K mg base ["_law_script", "_law_at", "_law_pile_here", "_law_names_here", "_law_thing", "_law_made", "_law_told", "_law_line", "_law_column", "_law_k", "_law_error", "_law_j"] "law" (defScope (top 18)) fa cdv A outer s H E) (fun _ _ _ _ => False) := L2.takes0
  have hp := passes_of (X := cxOf CX0 P w K mg base ["_law_script", "_law_at", "_law_pile_here", "_law_names_here", "_law_thing", "_law_made", "_law_told", "_law_line", "_law_column", "_law_k", "_law_error", "_law_j"] "law" (defScope (top 18)) fa cdv A outer s H E) rfl
  exact (r_cons (r_for G hp (s_rng1 rfl f_range (gq ki)) (tg1 G) gb1 (r_cons (r_set G rfl (.inl rfl) (g_call (df_of d__law_pile rfl hr (by decide)) tk rfl g__law_pile (pgs_cons (gg (vf (i := 0) vt)) (pgs_cons (gg (vf (i := 1) vt)) pgs_nil))))
  (r_cons (r_set G rfl (.inl rfl) (g_call (df_of d__law_names rfl hr (by decide)) tk rfl g__law_names (pgs_cons (pg_io vt) (pgs_cons (gg (g_bin o_add (aq ki) (ag (g_call (df_of d__law_take rfl hr (by decide)) tk rfl g__law_take (pgs_cons (pg_io vt) (pgs_cons (gg (gq ki)) pgs_nil)))))) pgs_nil))))
  (r_cons (r_set G rfl (.inl rfl) (g_ix (ag (g_lst (pfs_cons (gq (q_ix (vq vt) ki)) (pfs_cons (gq kn) (pfs_cons (g_call (df_of d__law_take rfl hr (by decide)) tk rfl g__law_take (pgs_cons (pg_io vt) (pgs_cons (gg (gq (q_bin o_pow ki ki))) pgs_nil))) (pfs_cons (g_lst (pfs_cons (gq (q_ix (vq vt) (q_neg ki))) pfs_nil)) (pfs_cons (gq kb) pfs_nil))))))) (ag (g_call (df_of d__law_take rfl hr (by decide)) tk rfl g__law_take (pgs_cons (pg_io vt) (pgs_cons (gg (gq ki)) pgs_nil))))))
  (r_cons (r_par2 G rfl rfl (by decide) rfl rfl (pfs_cons (g_call (df_of d__law_take rfl hr (by decide)) tk rfl g__law_take (pgs_cons (pg_io vt) (pgs_cons (gg (gq ki)) pgs_nil))) (pfs_cons (g_ix (ag (g_lst (pfs_cons (gq kn) (pfs_cons (g_call (df_of d__law_take rfl hr (by decide)) tk rfl g__law_take (pgs_cons (pg_io vt) (pgs_cons (gg (gq ki)) pgs_nil))) pfs_nil)))) (ag (g_call (df_of d__law_take rfl hr (by decide)) tk rfl g__law_take (pgs_cons (pg_io vt) (pgs_cons (gg (gq ki)) pgs_nil))))) pfs_nil)))
  (r_cons (r_set G rfl (.inl rfl) (g_lst (pfs_cons (g_mkx (xk_of x_InvalidShape hr (by decide)) (by decide) tk rfl g_InvalidShape (pfs_cons (vf vt) pfs_nil)) (pfs_cons (g_mkx (xk_of x_UnknownCell hr (by decide)) (by decide) tk rfl g_UnknownCell (pfs_cons (vf vt) pfs_nil)) (pfs_cons (g_mkx (xk_of x_InvalidRow hr (by decide)) (by decide) tk rfl g_InvalidRow (pfs_cons (vf vt) pfs_nil)) (pfs_cons (g_mkx (xk_of x_InvalidWalk hr (by decide)) (by decide) tk rfl g_InvalidWalk (pfs_cons (vf vt) pfs_nil)) (pfs_cons (g_mkx (xk_of x_InvalidNumber hr (by decide)) (by decide) tk rfl g_InvalidNumber (pfs_cons (vf vt) pfs_nil)) pfs_nil)))))))
  (r_cons (r_set G rfl (.inl rfl) (g_bin o_add (va vt) (ag (g_lst (pfs_cons (g_mkx (xk_of x_InvalidText hr (by decide)) (by decide) tk rfl g_InvalidText (pfs_cons (vf vt) (pfs_cons (vf vt) pfs_nil))) (pfs_cons (g_mkrQ (xk_of x_Ring hr (by decide)) tk rfl g_Ring (vq vt)) (pfs_cons (g_mkx (xk_of x_TooMany hr (by decide)) (by decide) tk rfl g_TooMany (pfs_cons (vf vt) pfs_nil)) (pfs_cons (g_mk0 (xk_of x_NothingToUndo hr (by decide)) tk rfl g_NothingToUndo) pfs_nil))))))))
  (r_cons (r_for G hp (s_enum rfl f_enumerate (vf vt)) (tg2 G (tg1 G) (tg1 G)) gb2 (r_cons (r_if (t_of (kv_cmp (o_ne (G).h64) (ag (g_call (df_of d__law_classes rfl hr (by decide)) tk rfl g__law_classes (pgs_cons (gg (vf (i := 10) vt)) pgs_nil))) (ag (g_lst (pfs_cons (g_lc (own := [("_law_j", 11)]) G (s_rng1 rfl f_range (gq ki)) gb1 rfl (blkOk_by (by kernel_rfl)) (fun _ _ _ _ _ => (tg1 (xg_blk G))) (fun _ _ _ _ _ => pcs_nil) (fun _ _ _ _ _ => (gq (q_of (k_cmp (o_eq ((xg_blk G)).h64) (vq vt) (vq vt)))))) (pfs_cons (gq kb) (pfs_cons (gq kb) pfs_nil))))))) (r_cons (r_ret (gq kb))
  r_nil) r_nil)
  r_nil))
  (r_cons (r_set G rfl (.inl rfl) (g_lst (pfs_cons (gq (q_fx fx_cell (q_ix (vq vt) ki))) (pfs_cons (gq (q_fx fx_name (q_ix (vq vt) ki))) (pfs_cons (gq (q_fx fx_index (q_ix (vq vt) ki))) (pfs_cons (gq (q_fx fx_index (q_ix (vq vt) ki))) (pfs_cons (gq (q_fx fx_number (q_ix (vq vt) ki))) pfs_nil)))))))
  (r_cons (r_if (t_of (kv_cmp (o_ne (G).h64) (va vt) (ag (g_lst (pfs_cons (vf vt) (pfs_cons (vf vt) (pfs_cons (vf vt) (pfs_cons (vf vt) (pfs_cons (vf vt) pfs_nil))))))))) (r_cons (r_ret (gq kb))
  r_nil) r_nil)
  (r_cons (r_if (t_of (kv_cmp (o_ne (G).h64) (ag (g_lst (pfs_cons (gq (q_fx fx_line (q_ix (vq vt) ki))) (pfs_cons (gq (q_fx fx_column (q_ix (vq vt) ki))) (pfs_cons (gq (q_fx fx_cells (q_ix (vq vt) ki))) (pfs_cons (gq (q_fx fx_limit (q_ix (vq vt) ki))) pfs_nil)))))) (ag (g_lst (pfs_cons (vf vt) (pfs_cons (vf vt) (pfs_cons (vf vt) (pfs_cons (vf vt) pfs_nil)))))))) (r_cons (r_ret (gq kb))
  r_nil) r_nil)
  (r_cons (r_if (ptc_no (ptc_val (g_call (df_of d__law_ring_right rfl hr (by decide)) tk rfl g__law_ring_right (pgs_cons (gg (vf (i := 3) vt)) pgs_nil)))) (r_cons (r_ret (gq kb))
  r_nil) r_nil)
  r_nil))))))))))))
  (r_cons (r_ret (gq kb))
  r_nil))
end VK
namespace VK
open VI PU
open L2 (Key)
theorem all_ok : S_law (runF T_law_classes 1 12 [] c_law_68) := by
  have h_law_pile : S_law_pile F_law_pile := z_law_pile _ 
  have h_law_mixed : S_law_mixed F_law_mixed := z_law_mixed _ 
  have h_law_take : S_law_take F_law_take := z_law_take _ h_law_mixed
  have h_law_names : S_law_names F_law_names := z_law_names _ h_law_take
  have h_law_ring_right : S_law_ring_right F_law_ring_right_3 := z_law_ring_right _ 
  have h_law_classes : S_law_classes F_law_classes := z_law_classes _ 
  exact z_law T_law_classes h_law_pile h_law_take h_law_names h_law_classes h_law_ring_right
theorem plain_of (h : ∀ ns : List Int, ns.length ≤ 63 → p_law ⟨ns⟩ = some true) : ∀ ns : List Int, ns.length ≤ 63 → ∃ s, VI.execs T_law_classes [] c_law_68 ⟨some (.scr ns) :: List.replicate (12 - 1) none, []⟩ = some (.ok (.rt (.bl true)) s) := fun ns hl => fs_law (all_ok ⟨ns⟩) (h ns hl)
end VK
namespace VK
open PySem PySem.Spec PyProof.Rows L2 VI
theorem facts_ok (plain : ∀ ns : List Int, ns.length ≤ 63 → ∃ s, execs T_law_classes [] c_law_68 ⟨some (.scr ns) :: List.replicate (12 - 1) none, []⟩ = some (.ok (.rt (.bl true)) s)) {P : Program} {w : World} {K : PySem.W.Frag} {h : Heap} {mg : Str → Option Value} {f : Addr} (X : K.In h) (G : h.Ns mainGlobals mg) (hfa : mg ("law" : Str) = some (.ref f)) (c0 : SaysE fas fns fxs K) :
    ∃ fd : FuncData, (∀ (s : Shared) (v : Value), BindsTo s fd ⟨[v], []⟩ [("_law_script", v)]) ∧ ∀ base : Heap, K.In base → base.Ns mainGlobals mg → FnOk P w K mg base CX0 4 f fd ["_law_script"] (spL K 63) := by
  have c := c0.2
  obtain ⟨fdx_Ring, FX_Ring⟩ := c.def_ 7 (d := ⟨("Ring", some "__init__"), "__init__", "Ring.__init__", defArgs (mth 8 0), defBody (mth 8 0), defScope (mth 8 0), [], []⟩) rfl
  have X_Ring : ∀ base : Heap, Dx P w K mg base ⟨He.ga K, w⟩ "Ring" ["cells"] true := fun base => dxR FX_Ring ⟨rfl, rfl, rfl, by decide +kernel, rfl, by decide +kernel, by decide +kernel⟩ (FX_Ring.bindsN fun _ _ _ _ _ _ us hl => match us, hl with | [_, _], _ => rfl) rfl rfl (He.free_ok X G (c.fact 8 rfl)) rfl rfl (He.glo_ok X G (c.fact 19 rfl)) (bi_of (c0.x 1 rfl)) (xs_of (c0.x 0 rfl)) (He.meth_ok (c.fact 25 rfl)) (He.noat_ok (c.fact 26 rfl)) (fun _ _ _ => ⟨_, rfl⟩)
  obtain ⟨fdx_InvalidShape, FX_InvalidShape⟩ := c.def_ 8 (d := ⟨("InvalidShape", some "__init__"), "__init__", "InvalidShape.__init__", defArgs (mth 2 0), defBody (mth 2 0), defScope (mth 2 0), [], []⟩) rfl
  have X_InvalidShape : ∀ base : Heap, Dx P w K mg base ⟨He.ga K, w⟩ "InvalidShape" ["cell"] false := fun base => dx1 FX_InvalidShape ⟨rfl, rfl, rfl, by decide +kernel, rfl, by decide +kernel, by decide +kernel⟩ (FX_InvalidShape.bindsN fun _ _ _ _ _ _ us hl => match us, hl with | [_, _], _ => rfl) rfl rfl rfl (He.glo_ok X G (c.fact 19 rfl)) (bi_of (c0.x 1 rfl)) (xs_of (c0.x 2 rfl)) (He.meth_ok (c.fact 27 rfl)) (He.noat_ok (c.fact 28 rfl)) (fun _ _ _ => ⟨_, rfl⟩)
  obtain ⟨fdx_UnknownCell, FX_UnknownCell⟩ := c.def_ 9 (d := ⟨("UnknownCell", some "__init__"), "__init__", "UnknownCell.__init__", defArgs (mth 3 0), defBody (mth 3 0), defScope (mth 3 0), [], []⟩) rfl
  have X_UnknownCell : ∀ base : Heap, Dx P w K mg base ⟨He.ga K, w⟩ "UnknownCell" ["name"] false := fun base => dx1 FX_UnknownCell ⟨rfl, rfl, rfl, by decide +kernel, rfl, by decide +kernel, by decide +kernel⟩ (FX_UnknownCell.bindsN fun _ _ _ _ _ _ us hl => match us, hl with | [_, _], _ => rfl) rfl rfl rfl (He.glo_ok X G (c.fact 19 rfl)) (bi_of (c0.x 1 rfl)) (xs_of (c0.x 3 rfl)) (He.meth_ok (c.fact 29 rfl)) (He.noat_ok (c.fact 30 rfl)) (fun _ _ _ => ⟨_, rfl⟩)
  obtain ⟨fdx_InvalidRow, FX_InvalidRow⟩ := c.def_ 10 (d := ⟨("InvalidRow", some "__init__"), "__init__", "InvalidRow.__init__", defArgs (mth 4 0), defBody (mth 4 0), defScope (mth 4 0), [], []⟩) rfl
  have X_InvalidRow : ∀ base : Heap, Dx P w K mg base ⟨He.ga K, w⟩ "InvalidRow" ["index"] false := fun base => dx1 FX_InvalidRow ⟨rfl, rfl, rfl, by decide +kernel, rfl, by decide +kernel, by decide +kernel⟩ (FX_InvalidRow.bindsN fun _ _ _ _ _ _ us hl => match us, hl with | [_, _], _ => rfl) rfl rfl rfl (He.glo_ok X G (c.fact 19 rfl)) (bi_of (c0.x 1 rfl)) (xs_of (c0.x 4 rfl)) (He.meth_ok (c.fact 31 rfl)) (He.noat_ok (c.fact 32 rfl)) (fun _ _ _ => ⟨_, rfl⟩)
  obtain ⟨fdx_InvalidWalk, FX_InvalidWalk⟩ := c.def_ 11 (d := ⟨("InvalidWalk", some "__init__"), "__init__", "InvalidWalk.__init__", defArgs (mth 5 0), defBody (mth 5 0), defScope (mth 5 0), [], []⟩) rfl
  have X_InvalidWalk : ∀ base : Heap, Dx P w K mg base ⟨He.ga K, w⟩ "InvalidWalk" ["index"] false := fun base => dx1 FX_InvalidWalk ⟨rfl, rfl, rfl, by decide +kernel, rfl, by decide +kernel, by decide +kernel⟩ (FX_InvalidWalk.bindsN fun _ _ _ _ _ _ us hl => match us, hl with | [_, _], _ => rfl) rfl rfl rfl (He.glo_ok X G (c.fact 19 rfl)) (bi_of (c0.x 1 rfl)) (xs_of (c0.x 5 rfl)) (He.meth_ok (c.fact 33 rfl)) (He.noat_ok (c.fact 34 rfl)) (fun _ _ _ => ⟨_, rfl⟩)
  obtain ⟨fdx_InvalidNumber, FX_InvalidNumber⟩ := c.def_ 12 (d := ⟨("InvalidNumber", some "__init__"), "__init__", "InvalidNumber.__init__", defArgs (mth 6 0), defBody (mth 6 0), defScope (mth 6 0), [], []⟩) rfl
  have X_InvalidNumber : ∀ base : Heap, Dx P w K mg base ⟨He.ga K, w⟩ "InvalidNumber" ["number"] false := fun base => dx1 FX_InvalidNumber ⟨rfl, rfl, rfl, by decide +kernel, rfl, by decide +kernel, by decide +kernel⟩ (FX_InvalidNumber.bindsN fun _ _ _ _ _ _ us hl => match us, hl with | [_, _], _ => rfl) rfl rfl rfl (He.glo_ok X G (c.fact 19 rfl)) (bi_of (c0.x 1 rfl)) (xs_of (c0.x 6 rfl)) (He.meth_ok (c.fact 35 rfl)) (He.noat_ok (c.fact 36 rfl)) (fun _ _ _ => ⟨_, rfl⟩)
  obtain ⟨fdx_InvalidText, FX_InvalidText⟩ := c.def_ 13 (d := ⟨("InvalidText", some "__init__"), "__init__", "InvalidText.__init__", defArgs (mth 7 0), defBody (mth 7 0), defScope (mth 7 0), [], []⟩) rfl
  have X_InvalidText : ∀ base : Heap, Dx P w K mg base ⟨He.ga K, w⟩ "InvalidText" ["line", "column"] false := fun base => dx2 FX_InvalidText ⟨rfl, rfl, rfl, by decide +kernel, rfl, by decide +kernel, by decide +kernel⟩ (FX_InvalidText.bindsN fun _ _ _ _ _ _ us hl => match us, hl with | [_, _, _], _ => rfl) rfl rfl rfl rfl (He.glo_ok X G (c.fact 19 rfl)) (bi_of (c0.x 1 rfl)) (xs_of (c0.x 7 rfl)) (He.meth_ok (c.fact 37 rfl)) (He.noat_ok (c.fact 38 rfl)) (He.noat_ok (c.fact 39 rfl)) (fun _ _ _ => ⟨_, rfl⟩)
  obtain ⟨fdx_TooMany, FX_TooMany⟩ := c.def_ 14 (d := ⟨("TooMany", some "__init__"), "__init__", "TooMany.__init__", defArgs (mth 9 0), defBody (mth 9 0), defScope (mth 9 0), [], []⟩) rfl
  have X_TooMany : ∀ base : Heap, Dx P w K mg base ⟨He.ga K, w⟩ "TooMany" ["limit"] false := fun base => dx1 FX_TooMany ⟨rfl, rfl, rfl, by decide +kernel, rfl, by decide +kernel, by decide +kernel⟩ (FX_TooMany.bindsN fun _ _ _ _ _ _ us hl => match us, hl with | [_, _], _ => rfl) rfl rfl rfl (He.glo_ok X G (c.fact 19 rfl)) (bi_of (c0.x 1 rfl)) (xs_of (c0.x 8 rfl)) (He.meth_ok (c.fact 40 rfl)) (He.noat_ok (c.fact 41 rfl)) (fun _ _ _ => ⟨_, rfl⟩)
  obtain ⟨fdx_NothingToUndo, FX_NothingToUndo⟩ := c.def_ 15 (d := ⟨("NothingToUndo", some "__init__"), "__init__", "NothingToUndo.__init__", defArgs (mth 10 0), defBody (mth 10 0), defScope (mth 10 0), [], []⟩) rfl
  have X_NothingToUndo : ∀ base : Heap, Dx P w K mg base ⟨He.ga K, w⟩ "NothingToUndo" [] false := fun base => dx0 FX_NothingToUndo ⟨rfl, rfl, rfl, by decide +kernel, rfl, by decide +kernel, by decide +kernel⟩ (FX_NothingToUndo.bindsN fun _ _ _ _ _ _ us hl => match us, hl with | [_], _ => rfl) rfl rfl (He.glo_ok X G (c.fact 19 rfl)) (bi_of (c0.x 1 rfl)) (xs_of (c0.x 9 rfl)) (He.meth_ok (c.fact 42 rfl)) (fun _ _ _ => ⟨_, rfl⟩)
  obtain ⟨fd_law_pile, F_law_pile⟩ := c.def_ 0 (d := ⟨("_law_pile", none), "_law_pile", "_law_pile", defArgs (top 13), defBody (top 13), defScope (top 13), [], []⟩) rfl
  have D_law_pile : ∀ base : Heap, Dg P w K mg base ⟨He.ga K, w⟩ 1 (He.ga K "_law_pile") 2 VK.F_law_pile := fun base => ok_law_pile F_law_pile (He.free_ok X G (c.fact 1 rfl)) (He.free_ok X G (c.fact 2 rfl)) (He.free_ok X G (c.fact 3 rfl))
  obtain ⟨fd_law_mixed, F_law_mixed⟩ := c.def_ 1 (d := ⟨("_law_mixed", none), "_law_mixed", "_law_mixed", defArgs (top 12), defBody (top 12), defScope (top 12), [], []⟩) rfl
  have D_law_mixed : ∀ base : Heap, Dg P w K mg base ⟨He.ga K, w⟩ 1 (He.ga K "_law_mixed") 2 VK.F_law_mixed := fun base => ok_law_mixed F_law_mixed (He.free_ok X G (c.fact 2 rfl))
  obtain ⟨fd_law_take, F_law_take⟩ := c.def_ 2 (d := ⟨("_law_take", none), "_law_take", "_law_take", defArgs (top 14), defBody (top 14), defScope (top 14), [], []⟩) rfl
  have D_law_take : ∀ base : Heap, Dg P w K mg base ⟨He.ga K, w⟩ 2 (He.ga K "_law_take") 2 VK.F_law_take := fun base => ok_law_take F_law_take (D_law_mixed base) (He.glo_ok X G (c.fact 4 rfl)) (He.free_ok X G (c.fact 2 rfl))
  obtain ⟨fd_law_names, F_law_names⟩ := c.def_ 3 (d := ⟨("_law_names", none), "_law_names", "_law_names", defArgs (top 15), defBody (top 15), defScope (top 15), [], []⟩) rfl
  have D_law_names : ∀ base : Heap, Dg P w K mg base ⟨He.ga K, w⟩ 3 (He.ga K "_law_names") 2 VK.F_law_names := fun base => ok_law_names F_law_names (D_law_take base) (He.glo_ok X G (c.fact 5 rfl)) (He.free_ok X G (c.fact 6 rfl)) (He.free_ok X G (c.fact 1 rfl)) (He.free_ok X G (c.fact 2 rfl)) (He.free_ok X G (c.fact 7 rfl))
  obtain ⟨fd_law_ring_right_3, F_law_ring_right_3⟩ := c.def_ 4 (d := ⟨("_law_ring_right", none), "_law_ring_right", "_law_ring_right", defArgs (top 17), defBody (top 17), defScope (top 17), [], []⟩) rfl
  have D_law_ring_right_3 : ∀ base : Heap, Dg P w K mg base ⟨He.ga K, w⟩ 3 (He.ga K "_law_ring_right") 1 VK.F_law_ring_right_3 := fun base => ok_law_ring_right_3 F_law_ring_right_3 (He.free_ok X G (c.fact 8 rfl)) (He.glo_ok X G (c.fact 9 rfl)) (X_Ring base) (al_cons ⟨(xs_of (c0.x 0 rfl)), (He.noat_ok (c.fact 26 rfl))⟩ al_nil)
  obtain ⟨fd_law_classes, F_law_classes⟩ := c.def_ 5 (d := ⟨("_law_classes", none), "_law_classes", "_law_classes", defArgs (top 16), defBody (top 16), defScope (top 16), [], []⟩) rfl
  have D_law_classes : ∀ base : Heap, Dg P w K mg base ⟨He.ga K, w⟩ 1 (He.ga K "_law_classes") 1 VK.F_law_classes := fun base => ok_law_classes F_law_classes (He.free_ok X G (c.fact 10 rfl)) (al_cons ⟨(xs_of (c0.x 2 rfl)), (isk_of (c0.x 10 rfl)).trans (by decide +kernel)⟩ (al_cons ⟨(xs_of (c0.x 3 rfl)), (isk_of (c0.x 11 rfl)).trans (by decide +kernel)⟩ (al_cons ⟨(xs_of (c0.x 4 rfl)), (isk_of (c0.x 12 rfl)).trans (by decide +kernel)⟩ (al_cons ⟨(xs_of (c0.x 5 rfl)), (isk_of (c0.x 13 rfl)).trans (by decide +kernel)⟩ (al_cons ⟨(xs_of (c0.x 6 rfl)), (isk_of (c0.x 14 rfl)).trans (by decide +kernel)⟩ (al_cons ⟨(xs_of (c0.x 7 rfl)), (isk_of (c0.x 15 rfl)).trans (by decide +kernel)⟩ (al_cons ⟨(xs_of (c0.x 0 rfl)), (isk_of (c0.x 16 rfl)).trans (by decide +kernel)⟩ (al_cons ⟨(xs_of (c0.x 8 rfl)), (isk_of (c0.x 17 rfl)).trans (by decide +kernel)⟩ (al_cons ⟨(xs_of (c0.x 9 rfl)), (isk_of (c0.x 18 rfl)).trans (by decide +kernel)⟩ al_nil))))))))) (He.glo_ok X G (c.fact 11 rfl)) (al_cons ⟨(xs_of (c0.x 2 rfl)), (isk_of (c0.x 19 rfl)).trans (by decide +kernel)⟩ (al_cons ⟨(xs_of (c0.x 3 rfl)), (isk_of (c0.x 20 rfl)).trans (by decide +kernel)⟩ (al_cons ⟨(xs_of (c0.x 4 rfl)), (isk_of (c0.x 21 rfl)).trans (by decide +kernel)⟩ (al_cons ⟨(xs_of (c0.x 5 rfl)), (isk_of (c0.x 22 rfl)).trans (by decide +kernel)⟩ (al_cons ⟨(xs_of (c0.x 6 rfl)), (isk_of (c0.x 23 rfl)).trans (by decide +kernel)⟩ (al_cons ⟨(xs_of (c0.x 7 rfl)), (isk_of (c0.x 24 rfl)).trans (by decide +kernel)⟩ (al_cons ⟨(xs_of (c0.x 0 rfl)), (isk_of (c0.x 25 rfl)).trans (by decide +kernel)⟩ (al_cons ⟨(xs_of (c0.x 8 rfl)), (isk_of (c0.x 26 rfl)).trans (by decide +kernel)⟩ (al_cons ⟨(xs_of (c0.x 9 rfl)), (isk_of (c0.x 27 rfl)).trans (by decide +kernel)⟩ al_nil))))))))) (He.glo_ok X G (c.fact 12 rfl)) (al_cons ⟨(xs_of (c0.x 2 rfl)), (isk_of (c0.x 28 rfl)).trans (by decide +kernel)⟩ (al_cons ⟨(xs_of (c0.x 3 rfl)), (isk_of (c0.x 29 rfl)).trans (by decide +kernel)⟩ (al_cons ⟨(xs_of (c0.x 4 rfl)), (isk_of (c0.x 30 rfl)).trans (by decide +kernel)⟩ (al_cons ⟨(xs_of (c0.x 5 rfl)), (isk_of (c0.x 31 rfl)).trans (by decide +kernel)⟩ (al_cons ⟨(xs_of (c0.x 6 rfl)), (isk_of (c0.x 32 rfl)).trans (by decide +kernel)⟩ (al_cons ⟨(xs_of (c0.x 7 rfl)), (isk_of (c0.x 33 rfl)).trans (by decide +kernel)⟩ (al_cons ⟨(xs_of (c0.x 0 rfl)), (isk_of (c0.x 34 rfl)).trans (by decide +kernel)⟩ (al_cons ⟨(xs_of (c0.x 8 rfl)), (isk_of (c0.x 35 rfl)).trans (by decide +kernel)⟩ (al_cons ⟨(xs_of (c0.x 9 rfl)), (isk_of (c0.x 36 rfl)).trans (by decide +kernel)⟩ al_nil))))))))) (He.glo_ok X G (c.fact 13 rfl)) (al_cons ⟨(xs_of (c0.x 2 rfl)), (isk_of (c0.x 37 rfl)).trans (by decide +kernel)⟩ (al_cons ⟨(xs_of (c0.x 3 rfl)), (isk_of (c0.x 38 rfl)).trans (by decide +kernel)⟩ (al_cons ⟨(xs_of (c0.x 4 rfl)), (isk_of (c0.x 39 rfl)).trans (by decide +kernel)⟩ (al_cons ⟨(xs_of (c0.x 5 rfl)), (isk_of (c0.x 40 rfl)).trans (by decide +kernel)⟩ (al_cons ⟨(xs_of (c0.x 6 rfl)), (isk_of (c0.x 41 rfl)).trans (by decide +kernel)⟩ (al_cons ⟨(xs_of (c0.x 7 rfl)), (isk_of (c0.x 42 rfl)).trans (by decide +kernel)⟩ (al_cons ⟨(xs_of (c0.x 0 rfl)), (isk_of (c0.x 43 rfl)).trans (by decide +kernel)⟩ (al_cons ⟨(xs_of (c0.x 8 rfl)), (isk_of (c0.x 44 rfl)).trans (by decide +kernel)⟩ (al_cons ⟨(xs_of (c0.x 9 rfl)), (isk_of (c0.x 45 rfl)).trans (by decide +kernel)⟩ al_nil))))))))) (He.glo_ok X G (c.fact 14 rfl)) (al_cons ⟨(xs_of (c0.x 2 rfl)), (isk_of (c0.x 46 rfl)).trans (by decide +kernel)⟩ (al_cons ⟨(xs_of (c0.x 3 rfl)), (isk_of (c0.x 47 rfl)).trans (by decide +kernel)⟩ (al_cons ⟨(xs_of (c0.x 4 rfl)), (isk_of (c0.x 48 rfl)).trans (by decide +kernel)⟩ (al_cons ⟨(xs_of (c0.x 5 rfl)), (isk_of (c0.x 49 rfl)).trans (by decide +kernel)⟩ (al_cons ⟨(xs_of (c0.x 6 rfl)), (isk_of (c0.x 50 rfl)).trans (by decide +kernel)⟩ (al_cons ⟨(xs_of (c0.x 7 rfl)), (isk_of (c0.x 51 rfl)).trans (by decide +kernel)⟩ (al_cons ⟨(xs_of (c0.x 0 rfl)), (isk_of (c0.x 52 rfl)).trans (by decide +kernel)⟩ (al_cons ⟨(xs_of (c0.x 8 rfl)), (isk_of (c0.x 53 rfl)).trans (by decide +kernel)⟩ (al_cons ⟨(xs_of (c0.x 9 rfl)), (isk_of (c0.x 54 rfl)).trans (by decide +kernel)⟩ al_nil))))))))) (He.glo_ok X G (c.fact 15 rfl)) (al_cons ⟨(xs_of (c0.x 2 rfl)), (isk_of (c0.x 55 rfl)).trans (by decide +kernel)⟩ (al_cons ⟨(xs_of (c0.x 3 rfl)), (isk_of (c0.x 56 rfl)).trans (by decide +kernel)⟩ (al_cons ⟨(xs_of (c0.x 4 rfl)), (isk_of (c0.x 57 rfl)).trans (by decide +kernel)⟩ (al_cons ⟨(xs_of (c0.x 5 rfl)), (isk_of (c0.x 58 rfl)).trans (by decide +kernel)⟩ (al_cons ⟨(xs_of (c0.x 6 rfl)), (isk_of (c0.x 59 rfl)).trans (by decide +kernel)⟩ (al_cons ⟨(xs_of (c0.x 7 rfl)), (isk_of (c0.x 60 rfl)).trans (by decide +kernel)⟩ (al_cons ⟨(xs_of (c0.x 0 rfl)), (isk_of (c0.x 61 rfl)).trans (by decide +kernel)⟩ (al_cons ⟨(xs_of (c0.x 8 rfl)), (isk_of (c0.x 62 rfl)).trans (by decide +kernel)⟩ (al_cons ⟨(xs_of (c0.x 9 rfl)), (isk_of (c0.x 63 rfl)).trans (by decide +kernel)⟩ al_nil))))))))) (He.glo_ok X G (c.fact 16 rfl)) (al_cons ⟨(xs_of (c0.x 2 rfl)), (isk_of (c0.x 64 rfl)).trans (by decide +kernel)⟩ (al_cons ⟨(xs_of (c0.x 3 rfl)), (isk_of (c0.x 65 rfl)).trans (by decide +kernel)⟩ (al_cons ⟨(xs_of (c0.x 4 rfl)), (isk_of (c0.x 66 rfl)).trans (by decide +kernel)⟩ (al_cons ⟨(xs_of (c0.x 5 rfl)), (isk_of (c0.x 67 rfl)).trans (by decide +kernel)⟩ (al_cons ⟨(xs_of (c0.x 6 rfl)), (isk_of (c0.x 68 rfl)).trans (by decide +kernel)⟩ (al_cons ⟨(xs_of (c0.x 7 rfl)), (isk_of (c0.x 69 rfl)).trans (by decide +kernel)⟩ (al_cons ⟨(xs_of (c0.x 0 rfl)), (isk_of (c0.x 70 rfl)).trans (by decide +kernel)⟩ (al_cons ⟨(xs_of (c0.x 8 rfl)), (isk_of (c0.x 71 rfl)).trans (by decide +kernel)⟩ (al_cons ⟨(xs_of (c0.x 9 rfl)), (isk_of (c0.x 72 rfl)).trans (by decide +kernel)⟩ al_nil))))))))) (He.glo_ok X G (c.fact 9 rfl)) (al_cons ⟨(xs_of (c0.x 2 rfl)), (isk_of (c0.x 73 rfl)).trans (by decide +kernel)⟩ (al_cons ⟨(xs_of (c0.x 3 rfl)), (isk_of (c0.x 74 rfl)).trans (by decide +kernel)⟩ (al_cons ⟨(xs_of (c0.x 4 rfl)), (isk_of (c0.x 75 rfl)).trans (by decide +kernel)⟩ (al_cons ⟨(xs_of (c0.x 5 rfl)), (isk_of (c0.x 76 rfl)).trans (by decide +kernel)⟩ (al_cons ⟨(xs_of (c0.x 6 rfl)), (isk_of (c0.x 77 rfl)).trans (by decide +kernel)⟩ (al_cons ⟨(xs_of (c0.x 7 rfl)), (isk_of (c0.x 78 rfl)).trans (by decide +kernel)⟩ (al_cons ⟨(xs_of (c0.x 0 rfl)), (isk_of (c0.x 79 rfl)).trans (by decide +kernel)⟩ (al_cons ⟨(xs_of (c0.x 8 rfl)), (isk_of (c0.x 80 rfl)).trans (by decide +kernel)⟩ (al_cons ⟨(xs_of (c0.x 9 rfl)), (isk_of (c0.x 81 rfl)).trans (by decide +kernel)⟩ al_nil))))))))) (He.glo_ok X G (c.fact 17 rfl)) (al_cons ⟨(xs_of (c0.x 2 rfl)), (isk_of (c0.x 82 rfl)).trans (by decide +kernel)⟩ (al_cons ⟨(xs_of (c0.x 3 rfl)), (isk_of (c0.x 83 rfl)).trans (by decide +kernel)⟩ (al_cons ⟨(xs_of (c0.x 4 rfl)), (isk_of (c0.x 84 rfl)).trans (by decide +kernel)⟩ (al_cons ⟨(xs_of (c0.x 5 rfl)), (isk_of (c0.x 85 rfl)).trans (by decide +kernel)⟩ (al_cons ⟨(xs_of (c0.x 6 rfl)), (isk_of (c0.x 86 rfl)).trans (by decide +kernel)⟩ (al_cons ⟨(xs_of (c0.x 7 rfl)), (isk_of (c0.x 87 rfl)).trans (by decide +kernel)⟩ (al_cons ⟨(xs_of (c0.x 0 rfl)), (isk_of (c0.x 88 rfl)).trans (by decide +kernel)⟩ (al_cons ⟨(xs_of (c0.x 8 rfl)), (isk_of (c0.x 89 rfl)).trans (by decide +kernel)⟩ (al_cons ⟨(xs_of (c0.x 9 rfl)), (isk_of (c0.x 90 rfl)).trans (by decide +kernel)⟩ al_nil))))))))) (He.glo_ok X G (c.fact 18 rfl)) (al_cons ⟨(xs_of (c0.x 2 rfl)), (isk_of (c0.x 91 rfl)).trans (by decide +kernel)⟩ (al_cons ⟨(xs_of (c0.x 3 rfl)), (isk_of (c0.x 92 rfl)).trans (by decide +kernel)⟩ (al_cons ⟨(xs_of (c0.x 4 rfl)), (isk_of (c0.x 93 rfl)).trans (by decide +kernel)⟩ (al_cons ⟨(xs_of (c0.x 5 rfl)), (isk_of (c0.x 94 rfl)).trans (by decide +kernel)⟩ (al_cons ⟨(xs_of (c0.x 6 rfl)), (isk_of (c0.x 95 rfl)).trans (by decide +kernel)⟩ (al_cons ⟨(xs_of (c0.x 7 rfl)), (isk_of (c0.x 96 rfl)).trans (by decide +kernel)⟩ (al_cons ⟨(xs_of (c0.x 0 rfl)), (isk_of (c0.x 97 rfl)).trans (by decide +kernel)⟩ (al_cons ⟨(xs_of (c0.x 8 rfl)), (isk_of (c0.x 98 rfl)).trans (by decide +kernel)⟩ (al_cons ⟨(xs_of (c0.x 9 rfl)), (isk_of (c0.x 99 rfl)).trans (by decide +kernel)⟩ al_nil))))))))) (He.glo_ok X G (c.fact 19 rfl)) (al_cons ⟨(xs_of (c0.x 2 rfl)), (ist_of (c0.x 100 rfl)).trans (by decide +kernel)⟩ (al_cons ⟨(xs_of (c0.x 3 rfl)), (ist_of (c0.x 101 rfl)).trans (by decide +kernel)⟩ (al_cons ⟨(xs_of (c0.x 4 rfl)), (ist_of (c0.x 102 rfl)).trans (by decide +kernel)⟩ (al_cons ⟨(xs_of (c0.x 5 rfl)), (ist_of (c0.x 103 rfl)).trans (by decide +kernel)⟩ (al_cons ⟨(xs_of (c0.x 6 rfl)), (ist_of (c0.x 104 rfl)).trans (by decide +kernel)⟩ (al_cons ⟨(xs_of (c0.x 7 rfl)), (ist_of (c0.x 105 rfl)).trans (by decide +kernel)⟩ (al_cons ⟨(xs_of (c0.x 0 rfl)), (ist_of (c0.x 106 rfl)).trans (by decide +kernel)⟩ (al_cons ⟨(xs_of (c0.x 8 rfl)), (ist_of (c0.x 107 rfl)).trans (by decide +kernel)⟩ (al_cons ⟨(xs_of (c0.x 9 rfl)), (ist_of (c0.x 108 rfl)).trans (by decide +kernel)⟩ al_nil))))))))) (He.free_ok X G (c.fact 20 rfl))
  obtain ⟨fd_law_68, F_law_68⟩ := c.def_ 6 (d := ⟨("law", none), "law", "law", defArgs (top 18), defBody (top 18), defScope (top 18), [], []⟩) rfl
  have e := hfa.symm.trans (He.glo_ok X G (c.fact 0 (f := .glo "law") rfl))
  cases e
  have b := FunD.bindsA (ps := ["_law_script"]) F_law_68 fun _ _ _ _ _ _ us hl => match us, hl with | [_], _ => rfl
  exact ⟨fd_law_68, fun s v => b s [v] rfl, fun base _ _ => ok_law_68 (ct := ⟨He.ga K, w⟩) F_law_68 (He.free_ok X G (c.fact 6 rfl)) (D_law_pile base) (He.glo_ok X G (c.fact 21 rfl)) (D_law_take base) (He.glo_ok X G (c.fact 5 rfl)) (D_law_names base) (He.glo_ok X G (c.fact 22 rfl)) (He.glo_ok X G (c.fact 11 rfl)) (X_InvalidShape base) (He.glo_ok X G (c.fact 12 rfl)) (X_UnknownCell base) (He.glo_ok X G (c.fact 13 rfl)) (X_InvalidRow base) (He.glo_ok X G (c.fact 14 rfl)) (X_InvalidWalk base) (He.glo_ok X G (c.fact 15 rfl)) (X_InvalidNumber base) (He.glo_ok X G (c.fact 16 rfl)) (X_InvalidText base) (He.glo_ok X G (c.fact 9 rfl)) (X_Ring base) (He.glo_ok X G (c.fact 17 rfl)) (X_TooMany base) (He.glo_ok X G (c.fact 18 rfl)) (X_NothingToUndo base) (He.free_ok X G (c.fact 7 rfl)) (D_law_classes base) (He.glo_ok X G (c.fact 23 rfl)) (al_cons ⟨(xs_of (c0.x 2 rfl)), (He.noat_ok (c.fact 28 rfl))⟩ al_nil) (al_cons ⟨(xs_of (c0.x 3 rfl)), (He.noat_ok (c.fact 30 rfl))⟩ al_nil) (al_cons ⟨(xs_of (c0.x 4 rfl)), (He.noat_ok (c.fact 32 rfl))⟩ (al_cons ⟨(xs_of (c0.x 5 rfl)), (He.noat_ok (c.fact 34 rfl))⟩ al_nil)) (al_cons ⟨(xs_of (c0.x 6 rfl)), (He.noat_ok (c.fact 36 rfl))⟩ al_nil) (al_cons ⟨(xs_of (c0.x 7 rfl)), (He.noat_ok (c.fact 38 rfl))⟩ al_nil) (al_cons ⟨(xs_of (c0.x 7 rfl)), (He.noat_ok (c.fact 39 rfl))⟩ al_nil) (al_cons ⟨(xs_of (c0.x 0 rfl)), (He.noat_ok (c.fact 26 rfl))⟩ al_nil) (al_cons ⟨(xs_of (c0.x 8 rfl)), (He.noat_ok (c.fact 41 rfl))⟩ al_nil) (D_law_ring_right_3 base) (He.glo_ok X G (c.fact 24 rfl)) plain⟩
end VK
open PySem PySem.W PySem.Calls PyProof.Rows
theorem PySem.Challenge.cw_recalcrows_k70_errors_made_holdsof (plain : ∀ ns : List Int, ns.length ≤ 63 → ∃ s, VI.execs VK.T_law_classes [] VK.c_law_68 ⟨some (.scr ns) :: List.replicate (12 - 1) none, []⟩ = some (.ok (.rt (.bl true)) s)) : PySem.Challenge.rw_recalcrows_k70_errors_made.Holds := by
  w_on; o_law
  refine HandSHeadRun.head_any (r := OpenLaw.row PySem.Challenge.rw_recalcrows_k70_errors_made) (q := view (OpenLaw.row PySem.Challenge.rw_recalcrows_k70_errors_made).prog [18]) (H := VK.hk) (ob := VK.ob) (M := 14000) (loose := VK.nms) (d := HandSHeadRun.topDef (OpenLaw.row PySem.Challenge.rw_recalcrows_k70_errors_made).prog 18) (kwd := []) VK.ob_eq
    (by kernel_rfl) (fun s => by kernel_rfl) VK.run (by kernel_rfl) (by kernel_rfl) (by kernel_rfl) (by rfl) (by first | assumption | decide +kernel) (by decide +kernel) ⟨rfl, rfl, rfl, rfl, rfl, by decide +kernel⟩ ?hw ?hc
  case hw => w_witness2
  case hc =>
    refine L2.walk_ofE (l := PySem.Challenge.rw_recalcrows_k70_errors_made) (n := 63) (k := 4) (x := "_law_script") (CX := L2.CX0) rfl (by decide) (by kernel_rfl) ⟨rfl, by decide, by decide⟩ ?F (fun _ _ _ _ z => z)
    intro w mg fa h Y G hmg0
    obtain ⟨K, KX, c⟩ := Y
    have hmg : mg ("law" : PySem.Str) = some (.ref fa) := by
      have e : (HandSHeadRun.topDef (OpenLaw.row PySem.Challenge.rw_recalcrows_k70_errors_made).prog 18).name = ("law" : PySem.Str) := by kernel_rfl
      rw [← e]
      exact hmg0
    obtain ⟨fd, hb, hF⟩ := VK.facts_ok plain (P := (PySem.Challenge.rw_recalcrows_k70_errors_made).prog) (w := w) KX G hmg c
    exact ⟨K, fd, VI.spL K 63, KX, hb, fun H a ns hl _ hS => ⟨a, ns, rfl, hl, hS, fun _ => rfl⟩, hF⟩
theorem PySem.Challenge.cw_recalcrows_k70_errors_made_holds : PySem.Challenge.rw_recalcrows_k70_errors_made.Holds :=
  PySem.Challenge.cw_recalcrows_k70_errors_made_holdsof (VK.plain_of fun ns _ => VK.law_ok ns)
