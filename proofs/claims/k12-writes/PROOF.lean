import PyProof.Rows.All
import Wide.All
import OpenK.AllK
import Wide.FinOn
import HandS.Lambda
import HandS.ForMost
import HandS.ForExc
import HandS.Walk
import HandS.HeadHook4
import HandS.Head2
import HandS.Words
import HandS.ClsMeth
import HandS.CallSlots
import HandS.ExcInit
import HandS.ExcField
import HandS.ExcIs
import HandS.TryOnly
import HandS.Wide
import HandS.IsInst
import HandS.More
import KE.KExcIs
import HandS.Style
import HandS.Text
import HandS.Comp
import PyProof.ListStr
import HandS.FStr
import HandS.MakeKwOnly
import KE.KCallOwn
import HandS.Dict
import PyProof.InstNe
import HandS.Deep
import KE.GoesEnum
import HandS.Defaults
import HandS.Property
import KE.KOpsOwn
import HandS.Zip
import KE.KDictOf
import HandS.DictComp
import HandS.WordsDict
import HandS.StrMore
import HandS.RaiseMore
import HandS.ReplaceLit
import KE.IntTextLaws
import KE.KStrOpen
import PyProof.StrLawsAffix
import HandS.ReplaceList
import HandS.Iter
import HandS.TryMany
import HandS.DictEq
import HandS.Set
import HandS.SetFor
import HandS.TupSets
import HandS.OwnEq
import HandS.Star
import KE.KParD
import HandS.AnyAll
import PyProof.GenCompD
import KE.KDictIter
import PyProof.FactsGen
import KE.Datum
import HandS.Conv
import KE.KDictList
import HandS.IterVal
import HandS.OwnIter
import HandS.EndOwn
import HandS.NestedK
import KE.KNestM
import KE.KLam
import PyProof.WalkInts
import PyProof.P3Eq
import KE.KFmtOwn
import KE.LtData
import HandS.Strs
import HandS.GenList
import KE.KEqNest
import PyProof.NeKinds
import HandS.ListEq
import HandS.MapSum
import HandS.SortKw
import KE.DataMinMax
import PyProof.SeqI3
import HandS.EndTab
import PyProof.ReprRoads
import PyProof.WalksEnum
import PyProof.EnumMake
import KE.SortData
import HandS.MethStar
import KE.KDictZip
import HandS.TupAny
import HandS.Finally
import HandS.SuiteRaise
import HandS.RaiseFrom
import HandS.ExcInitHot
import KE.KWithOwn
import PySem.Challenge.RW_chunkedloads_k12_writes
set_option Elab.async false
set_option linter.all false
set_option maxRecDepth 100000
set_option maxHeartbeats 4000000
set_option autoImplicit false
theorem gsn {α : Type} {l : List α} {i j : Nat} (h : i ≠ j) {a : α} : (l.set i a)[j]? = l[j]? := List.getElem?_set_ne h
namespace PI
open PySem PySem.Spec PyProof.Rows L2 He
def vA : Value → Addr
 | .ref a => a
 | _ => 0
def oA : Option (Option Value) → Addr
 | some (some v) => vA v
 | _ => 0
def isV : Value → Bool
 | .ref _ => true
 | _ => false
def isN : Value → Bool
 | .none => true
 | _ => false
def isR : Option (Option Value) → Bool
 | some (some v) => isV v
 | _ => false
theorem isV_ok {v : Value} (h : isV v = true) : v = .ref (vA v) := by cases v <;> first | rfl | cases h
theorem isN_ok {v : Value} (h : isN v = true) : v = .none := by cases v <;> first | rfl | cases h
theorem isR_ok {o : Option (Option Value)} (h : isR o = true) : o = some (some (.ref (oA o))) := by
 rcases o with _ | _ | v
 ·cases h
 ·cases h
 ·exact congrArg (fun x => some (some x)) (isV_ok h)
def fdO (K : PySem.W.Frag) (a : Addr) : Option FuncData := match K.lookup a with
 | some ⟨_, _, .func fd, _⟩ => some fd
 | _ => none
def dfV (K : PySem.W.Frag) (a : Addr) : Value := match fdO K a with
 | some fd => fd.defaults
 | none => .none
def kwV (K : PySem.W.Frag) (a : Addr) : Value := match fdO K a with
 | some fd => fd.kwdefaults
 | none => .none
def cdV (K : PySem.W.Frag) (a : Addr) : Value := match fdO K a with
 | some fd => fd.code
 | none => .none
def itA (K : PySem.W.Frag) (a : Addr) (i : Nat) : Addr := match K.lookup a with
  | some ⟨_, _, .seq its _, _⟩ => (match its.toList[i]? with
    | some v => vA v
    | none => 0)
  | _ => 0
def feV (K : PySem.W.Frag) (a : Addr) (i : Nat) : Value := match K.lookup a with
  | some ⟨_, _, .fields vs, _⟩ => (match vs[i]? with
    | some v => v
    | none => .none)
  | _ => .none
def fnA (K : PySem.W.Frag) (a : Addr) : FnW := match fdO K a with
 | some fd => some (fd.name, fd.qualname, fd.params, fd.body, fd.scope, fd.globals, fd.closure, fd.builtins)
 | none => none
theorem fn_lk {K : PySem.W.Frag} {a : Addr} {name qual : Str} {params : Arguments} {body : List Stmt} {scope : Scope} (e : fnA K a = some (name, qual, params, .stmts body, scope, mainGlobals, [], builtinsNs)) :
  ∃ oc od dc pm an ct sl, K.lookup a = some ⟨oc, od, .func (PySem.W.fnOf name qual params body scope (dfV K a) (kwV K a) dc pm an (cdV K a) ct), sl⟩ := by
 unfold fnA dfV kwV cdV at *
 cases q : fdO K a with
 | none => rw [q] at e; cases e
 | some fd =>
  rw [q] at e
  unfold fdO at q
  split at q
  ·rename_i oc od fd' sl lk
   cases q
   obtain ⟨n1, n2, n3, n4, n5, n6, n7, n8, n9, n10, n11, n12, n13, n14, n15⟩ := fd
   simp only [Option.some.injEq, Prod.mk.injEq] at e
   obtain ⟨h1, h2, h3, h4, h5, h6, h7, h8⟩ := e
   subst h1 h2 h3 h4 h5 h6 h7 h8
   exact ⟨oc, od, n10, n11, n12, n14, sl, lk⟩
  ·cases q
def fqB (K : PySem.W.Frag) (a : Addr) (qual : Str) : Bool := isN (dfV K a) && (PySem.W.codeIn K (cdV K a) qual && PySem.W.keepIn K (.ref a))
def fqC (K : PySem.W.Frag) (a : Addr) (qual : Str) : Bool := isV (cdV K a) && fqB K a qual
def fqD (K : PySem.W.Frag) (a : Addr) (qual : Str) : Bool := PySem.W.codeIn K (cdV K a) qual && PySem.W.keepIn K (.ref a)
def fdG (K : PySem.W.Frag) (a : Addr) : FuncData := (fdO K a).getD default
theorem fd_lk {K : PySem.W.Frag} {a : Addr} {name qual : Str} {params : Arguments} {body : List Stmt} {scope : Scope} (e : fnA K a = some (name, qual, params, .stmts body, scope, mainGlobals, [], builtinsNs)) :
  ∃ oc od dc pm an ct sl, fdG K a = PySem.W.fnOf name qual params body scope (dfV K a) (kwV K a) dc pm an (cdV K a) ct ∧ K.lookup a = some ⟨oc, od, .func (fdG K a), sl⟩ := by
 obtain ⟨oc, od, dc, pm, an, ct, sl, l⟩ := fn_lk e
 have z : fdG K a = PySem.W.fnOf name qual params body scope (dfV K a) (kwV K a) dc pm an (cdV K a) ct := by
  unfold fdG
  rw [show fdO K a = some (PySem.W.fnOf name qual params body scope (dfV K a) (kwV K a) dc pm an (cdV K a) ct) from by
   conv => lhs; unfold fdO
   rw [l]]
  rfl
 exact ⟨oc, od, dc, pm, an, ct, sl, z, by rw [z]; exact l⟩
def tuB (K : PySem.W.Frag) (a : Addr) (us : List V) : Bool := match K.lookup a with
 | some ⟨.type c, _, .seq its _, _⟩ => decide (c = "tuple") && (decide (its.size ≤ sizeLine) && relAll us its.toList)
 | _ => false
theorem tuB_ok {K : PySem.W.Frag} {a : Addr} {us : List V} (h : tuB K a us = true) : ∃ (o : Obj) (ts : Array Value) (n : Nat), K.lookup a = some o ∧ o.cls = .type "tuple" ∧ o.data = .seq ts n ∧ ts.size ≤ sizeLine ∧ Vals us ts.toList := by
 unfold tuB at h
 split at h
 ·rename_i c od its n sl lk
  obtain ⟨h1, h2⟩ := ba h
  obtain ⟨h3, h4⟩ := ba h2
  exact ⟨_, its, n, lk, congrArg Value.type (of_decide_eq_true h1), rfl, of_decide_eq_true h3, relAll_ok h4⟩
 ·cases h
def sqB (K : PySem.W.Frag) (a : Addr) (us : List V) : Bool := match K.lookup a with
 | some ⟨_, _, .seq its _, _⟩ => relAll us its.toList
 | _ => false
theorem sqB_ok {K : PySem.W.Frag} {a : Addr} {us : List V} (h : sqB K a us = true) : ∃ (o : Obj) (ts : Array Value) (n : Nat), K.lookup a = some o ∧ o.data = .seq ts n ∧ Vals us ts.toList := by
 unfold sqB at h
 split at h
 ·rename_i oc od its n sl lk
  exact ⟨_, its, n, lk, rfl, relAll_ok h⟩
 ·cases h
def litB (v : V) : Option (Option Value) → Bool
 | some (some u) => relB v u
 | _ => false
theorem litI_ok {i : Int} {o : Option (Option Value)} (h : litB (.int i) o = true) : ∃ t, o = some (some (.int i t)) := by
 rcases o with _ | _ | u
 ·cases h
 ·cases h
 ·obtain ⟨t, rfl⟩ : ∃ t, u = Value.int i t := relB_ok h
  exact ⟨t, rfl⟩
theorem litS_ok {x : Str} {o : Option (Option Value)} (h : litB (.str x) o = true) : ∃ t, o = some (some (.str x t)) := by
 rcases o with _ | _ | u
 ·cases h
 ·cases h
 ·obtain ⟨t, rfl⟩ : ∃ t, u = Value.str x t := relB_ok h
  exact ⟨t, rfl⟩
def exB (K : PySem.W.Frag) (C : Addr) : Bool := match K.lookup C with
  | some ⟨.type t, _, .cls cd, sl⟩ => decide (t = "type") && (match cd.mro, sl.toList with
    | .ref C' :: bm, [_, _, _, _, some (.builtin n), _] => C' == C && (n == "ValueError.__new__" && (!cd.hasDel && (cd.hasDict && PySem.HandSPX.refsVE bm)))
    | _, _ => false)
  | _ => false
theorem exB_ok {K : PySem.W.Frag} {C : Addr} (h : exB K C = true) : ∃ nm q N bs bm sn sub ab col dd k0 k1 k2 k3 k5, K.lookup C = some (excClassObj nm q C N bs bm true sn sub ab col dd k0 k1 k2 k3 k5 "ValueError.__new__") ∧ PySem.HandSPX.refsVE bm = true := by
 unfold exB at h
 split at h
 ·rename_i t dd cd sl ho
  obtain ⟨ht, h2⟩ := ba h
  obtain rfl : t = "type" := of_decide_eq_true ht
  clear h
  split at h2
  ·rename_i C' bm k0 k1 k2 k3 n k5 hm hs
   simp only [Bool.and_eq_true, beq_iff_eq, Bool.not_eq_true'] at h2
   obtain ⟨rfl, rfl, hdel, hdct, hv⟩ := h2
   obtain ⟨nm, bs, mro, ns, qn, hd, sn, sub, ab, col, del⟩ := cd
   dsimp only at hm hdel hdct
   subst hm hdel hdct
   have hsl : sl = #[k0, k1, k2, k3, some (.builtin "ValueError.__new__"), k5] := by
    obtain ⟨l⟩ := sl
    simp only at hs
    rw [hs]
   subst hsl
   exact ⟨nm, qn, ns, bs, bm, sn, sub, ab, col, dd, k0, k1, k2, k3, k5, ho, hv⟩
  ·cases h2
 ·cases h
def forceN {α : Type} (n : Nat) (k : Nat → α) : α := match n with
 | 0 => k 0
 | m + 1 => k (m + 1)
def reachA (g : Addr → Option Obj) : Nat → List Addr → Nat → List Addr → List Addr
  | 0, _, _, acc => acc
  | _ + 1, [], _, acc => acc
  | f + 1, a :: r, m, acc => match Nat.land (Nat.shiftRight m a) 1 with
    | 0 => (match g a with
      | some o => forceN (Nat.lor m (Nat.shiftLeft 1 a)) fun m => reachA g f (refsD o ++ r) m (a :: acc)
      | none => reachA g f r m acc)
    | _ + 1 => reachA g f r m acc
structure FnQ where
 adr : PySem.W.Frag → Addr
 name : Str
 qual : Str
 params : Arguments
 body : List Stmt
 scope : Scope
def FnQ.val (d : FnQ) : FnW := some (d.name, d.qual, d.params, .stmts d.body, d.scope, mainGlobals, [], builtinsNs)
abbrev Ck := PySem.W.Frag → Bool
abbrev TabQ := (PySem.W.Frag → Addr) × List Str
abbrev AlP : Type := Bool × (List FnW × List (Option (List (Option (Str × Int)))))
def tbA (K : PySem.W.Frag) (f : Addr) : Addr := vA (feV K (vA (cdV K f)) 11)
def tbB (g : Addr → Option Obj) (K : PySem.W.Frag) (ts : List (PySem.W.Frag → Addr)) : Bool := ts.all fun t => PySem.W.codeHdIn K (vA (cdV K (t K))) (tbA K (t K)) && (match g (tbA K (t K)) with
 | some o => emptyTab o
 | none => false)
def obsK (cks : List (List Ck)) (fns : List FnQ) (ds : List TabQ) (ts : List (PySem.W.Frag → Addr)) (g : Addr → Option Obj) (K : PySem.W.Frag) : AlP :=
 ((cks.all fun l => l.all fun c => c K) && tbB g K ts, (fns.map fun d => fnA K (d.adr K), ds.map fun t => dicW K (t.1 K)))
def obsP (n : Nat) (cks : List (List Ck)) (fns : List FnQ) (ds : List TabQ) (ts : List (PySem.W.Frag → Addr)) (g : Addr → Option Obj) : AlP := obsK cks fns ds ts g (frT g (reachA g n [mainGlobals, cStatics] 0 []))
def valP (fns : List FnQ) (ds : List TabQ) (w : World) : AlP := (true, (fns.map FnQ.val, ds.map fun t => some (keysIn w.params t.2)))
structure SaysP (cks : List (List Ck)) (fns : List FnQ) (ds : List TabQ) (ts : List (PySem.W.Frag → Addr)) (w : World) (h : Heap) (K : PySem.W.Frag) : Prop where
 ck : ∀ l ∈ cks, ∀ c ∈ l, c K = true
 fn : (fns.map fun d => fnA K (d.adr K)) = fns.map FnQ.val
 di : (ds.map fun t => dicW K (t.1 K)) = ds.map fun t => some (keysIn w.params t.2)
 hd : ∀ t ∈ ts, PySem.W.codeHdIn K (vA (cdV K (t K))) (tbA K (t K)) = true
 out : ∀ t ∈ ts, K.lookup (tbA K (t K)) = none
 empty : ∀ t ∈ ts, h.get? (tbA K (t K)) = some { cls := .none, data := .fields #[] }
theorem saysP_of {n : Nat} {cks : List (List Ck)} {fns : List FnQ} {ds : List TabQ} {ts : List (PySem.W.Frag → Addr)} {w : World} {h : Heap} (e : obsP n cks fns ds ts h.get? = valP fns ds w) : SaysP cks fns ds ts w h (frT h.get? (reachA h.get? n [mainGlobals, cStatics] 0 [])) := by
 obtain ⟨e1, e2⟩ := Prod.mk.inj e
 obtain ⟨e2, e3⟩ := Prod.mk.inj e2
 obtain ⟨c1, c2⟩ := ba e1
 have key := fun t ht => ba (List.all_eq_true.mp c2 t ht)
 have tab : ∀ t ∈ ts, ∃ o, h.get? (tbA (frT h.get? (reachA h.get? n [mainGlobals, cStatics] 0 [])) (t (frT h.get? (reachA h.get? n [mainGlobals, cStatics] 0 [])))) = some o ∧ emptyTab o = true := fun t ht => by
  have k2 := (key t ht).2
  split at k2
  ·exact ⟨_, by assumption, k2⟩
  ·cases k2
 refine ⟨fun l hl c hc => List.all_eq_true.mp (List.all_eq_true.mp c1 l hl) c hc, e2, e3, fun t ht => (key t ht).1, fun t ht => ?_, fun t ht => ?_⟩
 ·obtain ⟨o, q, z⟩ := tab t ht
  exact frT_none q z
 ·obtain ⟨o, q, z⟩ := tab t ht
  rw [q, emptyTab_eq z]
def hookP (n : Nat) (cks : List (List Ck)) (fns : List FnQ) (ds : List TabQ) (ts : List (PySem.W.Frag → Addr)) : PySem.W.Hook where
 α := AlP
 obs := fun s => obsP n cks fns ds ts s.heap.get?
 val := fun w => valP fns ds w
 says := fun w h => ∃ K : PySem.W.Frag, K.In h ∧ SaysP cks fns ds ts w h K
 of := fun _ _ e => ⟨_, frT_in, saysP_of e⟩
 keeps := fun _ _ _ ⟨K, hK, c⟩ k => ⟨K, PySem.W.Frag.In.keeps hK k, ⟨c.ck, c.fn, c.di, c.hd, c.out, fun t ht => k _ _ (c.empty t ht)⟩⟩
theorem obsP_eq {n : Nat} {cks : List (List Ck)} {fns : List FnQ} {ds : List TabQ} {ts : List (PySem.W.Frag → Addr)} (s : PySem.W.SharedT) : obsP n cks fns ds ts (HandSHeadRun.getT s) = (hookP n cks fns ds ts).obs s.abs := by
 have e : HandSHeadRun.getT s = s.abs.heap.get? := funext fun a => HandSHeadRun.getT_eq s a
 rw [e]
 rfl
section
variable {cks : List (List Ck)} {fns : List FnQ} {ds : List TabQ} {ts : List (PySem.W.Frag → Addr)} {w : World} {h : Heap} {K : PySem.W.Frag}
theorem SaysP.at (c : SaysP cks fns ds ts w h K) (i j : Nat) {l : List Ck} {t : Ck} (h1 : cks[i]? = some l) (h2 : l[j]? = some t) : t K = true := c.ck l (List.mem_of_getElem? h1) t (List.mem_of_getElem? h2)
def AllK (K : PySem.W.Frag) : List Ck → Prop
 | [] => True
 | c :: t => c K = true ∧ AllK K t
theorem allK_of : ∀ l : List Ck, (∀ c ∈ l, c K = true) → AllK K l
 | [], _ => trivial
 | c :: t, h => ⟨h c (by simp), allK_of t fun x hx => h x (by simp [hx])⟩
theorem SaysP.all (c : SaysP cks fns ds ts w h K) (i : Nat) {l : List Ck} (h1 : cks[i]? = some l) : AllK K l := allK_of l (c.ck l (List.mem_of_getElem? h1))
theorem SaysP.def_ (c : SaysP cks fns ds ts w h K) (i : Nat) {d : FnQ} (e : fns[i]? = some d) : fnA K (d.adr K) = some (d.name, d.qual, d.params, .stmts d.body, d.scope, mainGlobals, [], builtinsNs) := by
 have e2 : (fns.map fun d => fnA K (d.adr K))[i]? = (fns.map FnQ.val)[i]? := by rw [c.fn]
 rw [List.getElem?_map, List.getElem?_map, e] at e2
 exact Option.some.inj e2
end
section
open PySem.Calls
noncomputable def endW (l : PySem.W.OpenRow) (M : Nat) (w : World) (os : OsState) : Option PySem.W.SharedT := HandSHeadRun.endF (HandSHeadRun.stepQ (HandSHeadRun.denQ HandSHeadRun.tabQ) l.prog w) M l.prog w os
def RunO (l : PySem.W.OpenRow) (M n : Nat) (c : List (List Ck)) (f : List FnQ) (d : List TabQ) (t : List (PySem.W.Frag → Addr)) (w : World) : Prop := ∀ os : OsState, (endW l M w os).map (fun s => obsP n c f d t (HandSHeadRun.getT s)) = some (valP f d w)
theorem obs_app {n : Nat} {c1 c2 : List (List Ck)} {f1 f2 : List FnQ} {d1 d2 : List TabQ} {t1 t2 : List (PySem.W.Frag → Addr)} {w : World} {g : Addr → Option Obj} (e1 : obsP n c1 f1 d1 t1 g = valP f1 d1 w) (e2 : obsP n c2 f2 d2 t2 g = valP f2 d2 w) : obsP n (c1 ++ c2) (f1 ++ f2) (d1 ++ d2) (t1 ++ t2) g = valP (f1 ++ f2) (d1 ++ d2) w := by
 obtain ⟨a1, b1⟩ := Prod.mk.inj e1
 obtain ⟨a2, b2⟩ := Prod.mk.inj e2
 obtain ⟨b1, k1⟩ := Prod.mk.inj b1
 obtain ⟨b2, k2⟩ := Prod.mk.inj b2
 obtain ⟨x1, y1⟩ := ba a1
 obtain ⟨x2, y2⟩ := ba a2
 unfold tbB at y1 y2
 unfold obsP obsK valP tbB
 rw [List.all_append, List.all_append, x1, x2, y1, y2, List.map_append, List.map_append, List.map_append, List.map_append, b1, b2, k1, k2]
 rfl
theorem RunO.app {l : PySem.W.OpenRow} {M n : Nat} {c1 c2 : List (List Ck)} {f1 f2 : List FnQ} {d1 d2 : List TabQ} {t1 t2 : List (PySem.W.Frag → Addr)} {w : World} (r1 : RunO l M n c1 f1 d1 t1 w) (r2 : RunO l M n c2 f2 d2 t2 w) : RunO l M n (c1 ++ c2) (f1 ++ f2) (d1 ++ d2) (t1 ++ t2) w := fun os => by
 have e1 := r1 os
 have e2 := r2 os
 cases h : endW l M w os with
 | none => rw [h] at e1; cases e1
 | some s =>
  rw [h] at e1 e2
  show some _ = some _
  exact congrArg some (obs_app (Option.some.inj e1) (Option.some.inj e2))
end
end PI
namespace Wk12
open PySem PySem.Spec PyProof.Rows L2 ClX PI
def top (i : Nat) : Stmt := PySem.Challenge.pw_chunkedloads_k12_writes.main.body.getD i (.Pass ⟨0, 0, 0, 0⟩)
abbrev st_bag : Stmt := top 24
abbrev st_take : Stmt := top 25
abbrev st_of : Stmt := top 26
abbrev st_names : Stmt := top 27
abbrev st_keys : Stmt := top 30
abbrev st_owners : Stmt := top 32
abbrev st_integer : Stmt := top 28
abbrev st_rows : Stmt := top 31
abbrev st_is_name : Stmt := top 9
abbrev st_is_key : Stmt := top 12
abbrev st_InvalidPart__init : Stmt := inClass (top 3) 0
abbrev st_is_integer : Stmt := top 13
abbrev st_checked_rows : Stmt := top 15
abbrev st_owner_of : Stmt := top 14
abbrev st_checked_owners : Stmt := top 16
abbrev st_Store__init : Stmt := inClass (top 18) 0
abbrev st_Store_all_owners : Stmt := inClass (top 18) 10
abbrev st_value : Stmt := top 29
abbrev st_writes : Stmt := top 35
abbrev st_reason : Stmt := top 33
abbrev st_do : Stmt := top 34
abbrev st_Batch__init : Stmt := inClass (top 22) 0
abbrev st_Store_batch : Stmt := inClass (top 18) 15
abbrev st_Batch__enter : Stmt := inClass (top 22) 1
abbrev st_Batch__exit : Stmt := inClass (top 22) 2
abbrev st_in_batch : Stmt := top 19
abbrev st_Store_has_owner : Stmt := inClass (top 18) 8
abbrev st_Store_row : Stmt := inClass (top 18) 7
abbrev st_reason_of : Stmt := top 20
abbrev st_Batch_refusal : Stmt := inClass (top 22) 3
abbrev st_WriteRefused__init : Stmt := inClass (top 5) 0
abbrev st_Store_bear : Stmt := inClass (top 18) 13
abbrev st_Store_put : Stmt := inClass (top 18) 12
abbrev st_Missing__init : Stmt := inClass (top 4) 0
abbrev st_Store_drop : Stmt := inClass (top 18) 14
abbrev st_do_write : Stmt := top 21
abbrev st_Batch_write : Stmt := inClass (top 22) 4
abbrev st_tried : Stmt := top 36
abbrev st_Store_all_rows : Stmt := inClass (top 18) 9
abbrev st_seen : Stmt := top 37
abbrev st_law : Stmt := top 38
def a_C12 (K : W.Frag) : Addr := oA (W.nsIn K mainGlobals "Content")
def a_C13 (K : W.Frag) : Addr := oA (W.nsIn K mainGlobals "Store")
def a_C1 (K : W.Frag) : Addr := oA (W.nsIn K mainGlobals "InvalidPart")
def a_C14 (K : W.Frag) : Addr := oA (W.nsIn K mainGlobals "Batch")
def a_C5 (K : W.Frag) : Addr := oA (W.nsIn K mainGlobals "WriteRefused")
def a_C3 (K : W.Frag) : Addr := oA (W.nsIn K mainGlobals "Missing")
def a_f0 (K : W.Frag) : Addr := oA (W.nsIn K mainGlobals "_law_bag")
def a_f1 (K : W.Frag) : Addr := oA (W.nsIn K mainGlobals "_law_take")
def a_f2 (K : W.Frag) : Addr := oA (W.nsIn K mainGlobals "_law_of")
def a_f3 (K : W.Frag) : Addr := oA (W.nsIn K mainGlobals "_law_names")
def a_f4 (K : W.Frag) : Addr := oA (W.nsIn K mainGlobals "_law_keys")
def a_f5 (K : W.Frag) : Addr := oA (W.nsIn K mainGlobals "_law_owners")
def a_f6 (K : W.Frag) : Addr := oA (W.nsIn K mainGlobals "_law_integer")
def a_f7 (K : W.Frag) : Addr := oA (W.nsIn K mainGlobals "_law_rows")
def a_f8 (K : W.Frag) : Addr := oA (W.nsIn K mainGlobals "is_name")
def a_f9 (K : W.Frag) : Addr := oA (W.nsIn K mainGlobals "is_key")
def a_f10 (K : W.Frag) : Addr := oA (W.findIn K (.ref (a_C1 K)) "__init__")
def a_f11 (K : W.Frag) : Addr := oA (W.nsIn K mainGlobals "is_integer")
def a_f12 (K : W.Frag) : Addr := oA (W.nsIn K mainGlobals "checked_rows")
def a_f13 (K : W.Frag) : Addr := oA (W.nsIn K mainGlobals "owner_of")
def a_f14 (K : W.Frag) : Addr := oA (W.nsIn K mainGlobals "checked_owners")
def a_f15 (K : W.Frag) : Addr := oA (W.findIn K (.ref (a_C13 K)) "__init__")
def a_dT15 (K : W.Frag) : Addr := vA (dfV K (a_f15 K))
def a_TE15_0 (K : W.Frag) : Addr := itA K (a_dT15 K) 0
def a_TE15_1 (K : W.Frag) : Addr := itA K (a_dT15 K) 1
def a_f16 (K : W.Frag) : Addr := oA (W.findIn K (.ref (a_C13 K)) "all_owners")
def a_f17 (K : W.Frag) : Addr := oA (W.nsIn K mainGlobals "_law_value")
def a_f18 (K : W.Frag) : Addr := oA (W.nsIn K mainGlobals "_law_writes")
def a_f19 (K : W.Frag) : Addr := oA (W.nsIn K mainGlobals "_law_reason")
def a_f20 (K : W.Frag) : Addr := oA (W.nsIn K mainGlobals "_law_do")
def a_f21 (K : W.Frag) : Addr := oA (W.findIn K (.ref (a_C14 K)) "__init__")
def a_f22 (K : W.Frag) : Addr := oA (W.findIn K (.ref (a_C13 K)) "batch")
def a_kD22 (K : W.Frag) : Addr := vA (kwV K (a_f22 K))
def a_f23 (K : W.Frag) : Addr := oA (W.findIn K (.ref (a_C14 K)) "__enter__")
def a_f24 (K : W.Frag) : Addr := oA (W.findIn K (.ref (a_C14 K)) "__exit__")
def a_f25 (K : W.Frag) : Addr := oA (W.nsIn K mainGlobals "in_batch")
def a_kD25 (K : W.Frag) : Addr := vA (kwV K (a_f25 K))
def a_f26 (K : W.Frag) : Addr := oA (W.findIn K (.ref (a_C13 K)) "has_owner")
def a_f27 (K : W.Frag) : Addr := oA (W.findIn K (.ref (a_C13 K)) "row")
def a_f28 (K : W.Frag) : Addr := oA (W.nsIn K mainGlobals "reason_of")
def a_f29 (K : W.Frag) : Addr := oA (W.findIn K (.ref (a_C14 K)) "refusal")
def a_f30 (K : W.Frag) : Addr := oA (W.findIn K (.ref (a_C5 K)) "__init__")
def a_f31 (K : W.Frag) : Addr := oA (W.findIn K (.ref (a_C13 K)) "bear")
def a_f32 (K : W.Frag) : Addr := oA (W.findIn K (.ref (a_C13 K)) "put")
def a_f33 (K : W.Frag) : Addr := oA (W.findIn K (.ref (a_C3 K)) "__init__")
def a_f34 (K : W.Frag) : Addr := oA (W.findIn K (.ref (a_C13 K)) "drop")
def a_f35 (K : W.Frag) : Addr := oA (W.nsIn K mainGlobals "do_write")
def a_f36 (K : W.Frag) : Addr := oA (W.findIn K (.ref (a_C14 K)) "write")
def a_dT36 (K : W.Frag) : Addr := vA (dfV K (a_f36 K))
def a_f37 (K : W.Frag) : Addr := oA (W.nsIn K mainGlobals "_law_tried")
def a_f38 (K : W.Frag) : Addr := oA (W.findIn K (.ref (a_C13 K)) "all_rows")
def a_f39 (K : W.Frag) : Addr := oA (W.nsIn K mainGlobals "_law_seen")
def a_f40 (K : W.Frag) : Addr := oA (W.nsIn K mainGlobals "law")
def a_cA_law (K : W.Frag) : Addr := vA (cdV K (a_f40 K))
def a_PA_law (K : W.Frag) : Addr := tbA K (a_f40 K)
def cks0 : List Ck := [fun K => isR (W.nsIn K mainGlobals "Content"),
 fun K => isR (W.nsIn K mainGlobals "Store"),
 fun K => isR (W.nsIn K mainGlobals "InvalidPart"),
 fun K => isR (W.nsIn K mainGlobals "Batch"),
 fun K => isR (W.nsIn K mainGlobals "WriteRefused"),
 fun K => isR (W.nsIn K mainGlobals "Missing"),
 fun K => isR (W.nsIn K mainGlobals "_law_bag"),
 fun K => fqB K (a_f0 K) "_law_bag",
 fun K => isR (W.nsIn K mainGlobals "_law_take"),
 fun K => fqB K (a_f1 K) "_law_take",
 fun K => isR (W.nsIn K mainGlobals "_law_of"),
 fun K => fqB K (a_f2 K) "_law_of",
 fun K => isR (W.nsIn K mainGlobals "_law_names"),
 fun K => fqB K (a_f3 K) "_law_names",
 fun K => isR (W.nsIn K mainGlobals "_law_keys"),
 fun K => fqB K (a_f4 K) "_law_keys",
 fun K => isR (W.nsIn K mainGlobals "_law_owners"),
 fun K => fqB K (a_f5 K) "_law_owners",
 fun K => isR (W.nsIn K mainGlobals "_law_integer"),
 fun K => fqB K (a_f6 K) "_law_integer",
 fun K => isR (W.nsIn K mainGlobals "_law_rows"),
 fun K => fqB K (a_f7 K) "_law_rows",
 fun K => isR (W.nsIn K mainGlobals "is_name"),
 fun K => fqB K (a_f8 K) "is_name",
 fun K => isR (W.nsIn K mainGlobals "is_key"),
 fun K => fqB K (a_f9 K) "is_key",
 fun K => isR (W.findIn K (.ref (a_C1 K)) "__init__"),
 fun K => fqB K (a_f10 K) "InvalidPart.__init__",
 fun K => isR (W.nsIn K mainGlobals "is_integer"),
 fun K => fqB K (a_f11 K) "is_integer"]
def cks1 : List Ck := [fun K => isR (W.nsIn K mainGlobals "checked_rows"),
 fun K => fqB K (a_f12 K) "checked_rows",
 fun K => isR (W.nsIn K mainGlobals "owner_of"),
 fun K => fqB K (a_f13 K) "owner_of",
 fun K => isR (W.nsIn K mainGlobals "checked_owners"),
 fun K => fqB K (a_f14 K) "checked_owners",
 fun K => isR (W.findIn K (.ref (a_C13 K)) "__init__"),
 fun K => fqD K (a_f15 K) "Store.__init__",
 fun K => isV (dfV K (a_f15 K)),
 fun K => sqB K (a_dT15 K) [V.ref (a_TE15_0 K), V.ref (a_TE15_1 K)],
 fun K => isR (W.findIn K (.ref (a_C13 K)) "all_owners"),
 fun K => fqB K (a_f16 K) "Store.all_owners",
 fun K => isR (W.nsIn K mainGlobals "_law_value"),
 fun K => fqB K (a_f17 K) "_law_value",
 fun K => isR (W.nsIn K mainGlobals "_law_writes"),
 fun K => fqB K (a_f18 K) "_law_writes",
 fun K => isR (W.nsIn K mainGlobals "_law_reason"),
 fun K => fqB K (a_f19 K) "_law_reason",
 fun K => isR (W.nsIn K mainGlobals "_law_do"),
 fun K => fqB K (a_f20 K) "_law_do",
 fun K => isR (W.findIn K (.ref (a_C14 K)) "__init__"),
 fun K => fqB K (a_f21 K) "Batch.__init__",
 fun K => isR (W.findIn K (.ref (a_C13 K)) "batch"),
 fun K => fqD K (a_f22 K) "Store.batch",
 fun K => isN (dfV K (a_f22 K)),
 fun K => isV (kwV K (a_f22 K)),
 fun K => litB (.str "refuse") (W.nsIn K (a_kD22 K) "clash"),
 fun K => litB (.str "refuse") (W.nsIn K (a_kD22 K) "lost"),
 fun K => isR (W.findIn K (.ref (a_C14 K)) "__enter__"),
 fun K => fqB K (a_f23 K) "Batch.__enter__"]
def cks2 : List Ck := [fun K => isR (W.findIn K (.ref (a_C14 K)) "__exit__"),
 fun K => fqB K (a_f24 K) "Batch.__exit__",
 fun K => isR (W.nsIn K mainGlobals "in_batch"),
 fun K => fqD K (a_f25 K) "in_batch",
 fun K => isN (dfV K (a_f25 K)),
 fun K => isV (kwV K (a_f25 K)),
 fun K => litB (.str "refuse") (W.nsIn K (a_kD25 K) "clash"),
 fun K => litB (.str "refuse") (W.nsIn K (a_kD25 K) "lost"),
 fun K => isR (W.findIn K (.ref (a_C13 K)) "has_owner"),
 fun K => fqB K (a_f26 K) "Store.has_owner",
 fun K => isR (W.findIn K (.ref (a_C13 K)) "row"),
 fun K => fqB K (a_f27 K) "Store.row",
 fun K => isR (W.nsIn K mainGlobals "reason_of"),
 fun K => fqB K (a_f28 K) "reason_of",
 fun K => isR (W.findIn K (.ref (a_C14 K)) "refusal"),
 fun K => fqB K (a_f29 K) "Batch.refusal",
 fun K => isR (W.findIn K (.ref (a_C5 K)) "__init__"),
 fun K => fqB K (a_f30 K) "WriteRefused.__init__",
 fun K => isR (W.findIn K (.ref (a_C13 K)) "bear"),
 fun K => fqB K (a_f31 K) "Store.bear",
 fun K => isR (W.findIn K (.ref (a_C13 K)) "put"),
 fun K => fqB K (a_f32 K) "Store.put",
 fun K => isR (W.findIn K (.ref (a_C3 K)) "__init__"),
 fun K => fqB K (a_f33 K) "Missing.__init__",
 fun K => isR (W.findIn K (.ref (a_C13 K)) "drop"),
 fun K => fqB K (a_f34 K) "Store.drop",
 fun K => isR (W.nsIn K mainGlobals "do_write"),
 fun K => fqB K (a_f35 K) "do_write",
 fun K => isR (W.findIn K (.ref (a_C14 K)) "write"),
 fun K => fqD K (a_f36 K) "Batch.write"]
def cks3 : List Ck := [fun K => isV (dfV K (a_f36 K)),
 fun K => sqB K (a_dT36 K) [V.non],
 fun K => isR (W.nsIn K mainGlobals "_law_tried"),
 fun K => fqB K (a_f37 K) "_law_tried",
 fun K => isR (W.findIn K (.ref (a_C13 K)) "all_rows"),
 fun K => fqB K (a_f38 K) "Store.all_rows",
 fun K => isR (W.nsIn K mainGlobals "_law_seen"),
 fun K => fqB K (a_f39 K) "_law_seen",
 fun K => isR (W.nsIn K mainGlobals "law"),
 fun K => fqC K (a_f40 K) "law",
 fun K => litB (.int (999999999999999999999999999999)) (W.nsIn K mainGlobals "GREATEST"),
 fun K => litB (.str "abcdefghijklmnopqrstuvwxyz") (W.nsIn K mainGlobals "LETTERS"),
 fun K => litB (.int (8)) (W.nsIn K mainGlobals "MOST_SIGNS"),
 fun K => decide (W.nsIn K mainGlobals "abs" = some none),
 fun K => decide (W.nsIn K mainGlobals "bool" = some none),
 fun K => decide (W.nsIn K mainGlobals "dict" = some none),
 fun K => decide (W.nsIn K mainGlobals "enumerate" = some none),
 fun K => decide (W.nsIn K mainGlobals "int" = some none),
 fun K => decide (W.nsIn K mainGlobals "isinstance" = some none),
 fun K => decide (W.nsIn K mainGlobals "len" = some none),
 fun K => decide (W.nsIn K mainGlobals "list" = some none),
 fun K => decide (W.nsIn K mainGlobals "max" = some none),
 fun K => decide (W.nsIn K mainGlobals "min" = some none),
 fun K => decide (W.nsIn K mainGlobals "range" = some none),
 fun K => decide (W.nsIn K mainGlobals "sorted" = some none),
 fun K => decide (W.nsIn K mainGlobals "str" = some none),
 fun K => W.plainGet K (a_C12 K) Str.empty,
 fun K => W.hasDictIn K (a_C12 K),
 fun K => W.plainOver K (a_C12 K),
 fun K => decide (W.findIn K (.ref (a_C12 K)) "__setattr__" = some (some (.builtin "object.__setattr__")))]
def cks4 : List Ck := [fun K => W.plainGet K (a_C13 K) Str.empty,
 fun K => W.hasDictIn K (a_C13 K),
 fun K => W.plainOver K (a_C13 K),
 fun K => decide (W.findIn K (.ref (a_C13 K)) "__setattr__" = some (some (.builtin "object.__setattr__"))),
 fun K => W.plainGet K (a_C14 K) Str.empty,
 fun K => W.hasDictIn K (a_C14 K),
 fun K => W.plainOver K (a_C14 K),
 fun K => decide (W.findIn K (.ref (a_C14 K)) "__setattr__" = some (some (.builtin "object.__setattr__"))),
 fun K => decide (W.findIn K (.ref (a_C14 K)) "clash" = some none),
 fun K => decide (W.findIn K (.ref (a_C14 K)) "home" = some none),
 fun K => decide (W.findIn K (.ref (a_C14 K)) "lost" = some none),
 fun K => decide (W.findIn K (.ref (a_C14 K)) "owners_before" = some none),
 fun K => decide (W.findIn K (.ref (a_C14 K)) "rows_before" = some none),
 fun K => decide (W.findIn K (.ref (a_C14 K)) "tried" = some none),
 fun K => decide (W.findIn K (.ref (a_C12 K)) "born" = some none),
 fun K => decide (W.findIn K (.ref (a_C12 K)) "kept" = some none),
 fun K => decide (W.findIn K (.ref (a_C13 K)) "born" = some none),
 fun K => decide (W.findIn K (.ref (a_C13 K)) "kept" = some none),
 fun K => W.makesIn K (a_C13 K),
 fun K => decide (W.findIn K (.ref (a_C13 K)) "__init__" = some (some (.ref (a_f15 K)))),
 fun K => W.isFn K (.ref (a_f15 K)),
 fun K => W.keepIn K (.ref (a_C13 K)),
 fun K => W.makesIn K (a_C14 K),
 fun K => decide (W.findIn K (.ref (a_C14 K)) "__init__" = some (some (.ref (a_f21 K)))),
 fun K => W.isFn K (.ref (a_f21 K)),
 fun K => W.keepIn K (.ref (a_C14 K)),
 fun K => decide (W.findIn K (.ref (a_C14 K)) "refusal" = some (some (.ref (a_f29 K)))),
 fun K => W.isFn K (.ref (a_f29 K)),
 fun K => decide (W.findIn K (.ref (a_C14 K)) "write" = some (some (.ref (a_f36 K)))),
 fun K => W.isFn K (.ref (a_f36 K))]
def cks5 : List Ck := [fun K => decide (W.findIn K (.ref (a_C13 K)) "all_owners" = some (some (.ref (a_f16 K)))),
 fun K => W.isFn K (.ref (a_f16 K)),
 fun K => decide (W.findIn K (.ref (a_C13 K)) "all_rows" = some (some (.ref (a_f38 K)))),
 fun K => W.isFn K (.ref (a_f38 K)),
 fun K => decide (W.findIn K (.ref (a_C13 K)) "batch" = some (some (.ref (a_f22 K)))),
 fun K => W.isFn K (.ref (a_f22 K)),
 fun K => decide (W.findIn K (.ref (a_C13 K)) "bear" = some (some (.ref (a_f31 K)))),
 fun K => W.isFn K (.ref (a_f31 K)),
 fun K => decide (W.findIn K (.ref (a_C13 K)) "drop" = some (some (.ref (a_f34 K)))),
 fun K => W.isFn K (.ref (a_f34 K)),
 fun K => decide (W.findIn K (.ref (a_C13 K)) "has_owner" = some (some (.ref (a_f26 K)))),
 fun K => W.isFn K (.ref (a_f26 K)),
 fun K => decide (W.findIn K (.ref (a_C13 K)) "put" = some (some (.ref (a_f32 K)))),
 fun K => W.isFn K (.ref (a_f32 K)),
 fun K => decide (W.findIn K (.ref (a_C13 K)) "row" = some (some (.ref (a_f27 K)))),
 fun K => W.isFn K (.ref (a_f27 K)),
 fun K => exB K (a_C1 K),
 fun K => decide (W.findIn K (.ref (a_C1 K)) "__setattr__" = some (some (.builtin "object.__setattr__"))),
 fun K => decide (W.subIn K (.ref (a_C1 K)) (.type "BaseException") = some true),
 fun K => decide (W.typeIn K (.ref (a_C1 K)) = some (.type "type")),
 fun K => W.keepIn K (.ref (a_C1 K)),
 fun K => decide (W.findIn K (.ref (a_C1 K)) "__init__" = some (some (.ref (a_f10 K)))),
 fun K => decide (W.typeIn K (.ref (a_f10 K)) = some (.type "function")),
 fun K => decide (W.findIn K (.ref (a_C1 K)) "part" = some none),
 fun K => decide (W.findIn K (.ref (a_C1 K)) "thing" = some none),
 fun K => exB K (a_C3 K),
 fun K => decide (W.findIn K (.ref (a_C3 K)) "__setattr__" = some (some (.builtin "object.__setattr__"))),
 fun K => decide (W.subIn K (.ref (a_C3 K)) (.type "BaseException") = some true),
 fun K => decide (W.typeIn K (.ref (a_C3 K)) = some (.type "type")),
 fun K => W.keepIn K (.ref (a_C3 K))]
def cks6 : List Ck := [fun K => decide (W.findIn K (.ref (a_C3 K)) "__init__" = some (some (.ref (a_f33 K)))),
 fun K => decide (W.typeIn K (.ref (a_f33 K)) = some (.type "function")),
 fun K => decide (W.findIn K (.ref (a_C3 K)) "key" = some none),
 fun K => exB K (a_C5 K),
 fun K => decide (W.findIn K (.ref (a_C5 K)) "__setattr__" = some (some (.builtin "object.__setattr__"))),
 fun K => decide (W.subIn K (.ref (a_C5 K)) (.type "BaseException") = some true),
 fun K => decide (W.typeIn K (.ref (a_C5 K)) = some (.type "type")),
 fun K => W.keepIn K (.ref (a_C5 K)),
 fun K => decide (W.findIn K (.ref (a_C5 K)) "__init__" = some (some (.ref (a_f30 K)))),
 fun K => decide (W.typeIn K (.ref (a_f30 K)) = some (.type "function")),
 fun K => decide (W.findIn K (.ref (a_C5 K)) "place" = some none),
 fun K => decide (W.findIn K (.ref (a_C5 K)) "reason" = some none),
 fun K => decide (W.findIn K (.ref (a_C14 K)) "__enter__" = some (some (.ref (a_f23 K)))),
 fun K => W.isFn K (.ref (a_f23 K)),
 fun K => W.fnIn K (a_f23 K),
 fun K => decide (W.findIn K (.ref (a_C14 K)) "__exit__" = some (some (.ref (a_f24 K)))),
 fun K => W.isFn K (.ref (a_f24 K)),
 fun K => W.fnIn K (a_f24 K),
 fun K => decide (W.findIn K (.ref (a_C1 K)) "__getattribute__" = some (some (.builtin "BaseException.__getattribute__"))),
 fun K => decide (W.findIn K (.ref (a_C1 K)) "__getattr__" = some none),
 fun K => W.hasDictIn K (a_C1 K),
 fun K => (W.clsIn K (a_C1 K)).isSome,
 fun K => decide (W.subIn K (.ref (a_C1 K)) (.type "BaseException") = some true),
 fun K => decide (W.findIn K (.ref (a_C1 K)) "__class__" = some (some (.builtin "object.__class__"))),
 fun K => decide (W.specialIn K (.builtin "object.__class__") "__get__" = some (some (.builtin "getset_descriptor.__get__"))),
 fun K => decide (W.takesIn K (.builtin "object.__class__") = some true),
 fun K => decide (W.mroIn K (a_C1 K) (.type "object") = some true),
 fun K => decide (W.findIn K (.ref (a_C3 K)) "__getattribute__" = some (some (.builtin "BaseException.__getattribute__"))),
 fun K => decide (W.findIn K (.ref (a_C3 K)) "__getattr__" = some none),
 fun K => W.hasDictIn K (a_C3 K)]
def cks7 : List Ck := [fun K => (W.clsIn K (a_C3 K)).isSome,
 fun K => decide (W.subIn K (.ref (a_C3 K)) (.type "BaseException") = some true),
 fun K => decide (W.findIn K (.ref (a_C3 K)) "__class__" = some (some (.builtin "object.__class__"))),
 fun K => decide (W.specialIn K (.builtin "object.__class__") "__get__" = some (some (.builtin "getset_descriptor.__get__"))),
 fun K => decide (W.takesIn K (.builtin "object.__class__") = some true),
 fun K => decide (W.mroIn K (a_C3 K) (.type "object") = some true),
 fun K => decide (W.findIn K (.ref (a_C5 K)) "__getattribute__" = some (some (.builtin "BaseException.__getattribute__"))),
 fun K => decide (W.findIn K (.ref (a_C5 K)) "__getattr__" = some none),
 fun K => W.hasDictIn K (a_C5 K),
 fun K => (W.clsIn K (a_C5 K)).isSome,
 fun K => decide (W.subIn K (.ref (a_C5 K)) (.type "BaseException") = some true),
 fun K => decide (W.findIn K (.ref (a_C5 K)) "__class__" = some (some (.builtin "object.__class__"))),
 fun K => decide (W.specialIn K (.builtin "object.__class__") "__get__" = some (some (.builtin "getset_descriptor.__get__"))),
 fun K => decide (W.takesIn K (.builtin "object.__class__") = some true),
 fun K => decide (W.mroIn K (a_C5 K) (.type "object") = some true),
 fun K => decide (W.findIn K (.ref (a_C5 K)) "place" = some none),
 fun K => decide (W.findIn K (.ref (a_C5 K)) "reason" = some none),
 fun K => decide (W.exmOne K (.ref (a_C1 K)) (.ref (a_C5 K)) = some false),
 fun K => decide (W.exmOne K (.ref (a_C3 K)) (.ref (a_C5 K)) = some false),
 fun K => decide (W.exmOne K (.ref (a_C5 K)) (.ref (a_C5 K)) = some true),
 fun K => decide (W.kitOne K (.ref (a_C13 K)) (.ref (a_C12 K)) = some false),
 fun K => decide (W.kitOne K (.ref (a_C14 K)) (.ref (a_C12 K)) = some false),
 fun K => decide (W.kitOne K (.type "NoneType") (.ref (a_C12 K)) = some false),
 fun K => decide (W.kitOne K (.type "bool") (.ref (a_C12 K)) = some false),
 fun K => decide (W.kitOne K (.type "int") (.ref (a_C12 K)) = some false),
 fun K => decide (W.kitOne K (.type "str") (.ref (a_C12 K)) = some false),
 fun K => decide (W.kitOne K (.type "tuple") (.ref (a_C12 K)) = some false),
 fun K => decide (W.kitOne K (.type "list") (.ref (a_C12 K)) = some false),
 fun K => decide (W.kitOne K (.type "dict") (.ref (a_C12 K)) = some false),
 fun K => decide (W.findIn K (.ref (a_C13 K)) "__class__" = some (some (.builtin "object.__class__")))]
def cks8 : List Ck := [fun K => decide (W.specialIn K (.builtin "object.__class__") "__get__" = some (some (.builtin "getset_descriptor.__get__"))),
 fun K => decide (W.takesIn K (.builtin "object.__class__") = some true),
 fun K => decide (W.mroIn K (a_C13 K) (.type "object") = some true),
 fun K => decide (W.findIn K (.ref (a_C14 K)) "__class__" = some (some (.builtin "object.__class__"))),
 fun K => decide (W.specialIn K (.builtin "object.__class__") "__get__" = some (some (.builtin "getset_descriptor.__get__"))),
 fun K => decide (W.takesIn K (.builtin "object.__class__") = some true),
 fun K => decide (W.mroIn K (a_C14 K) (.type "object") = some true),
 fun K => decide (W.kitOne K (.ref (a_C1 K)) (.ref (a_C12 K)) = some false),
 fun K => decide (W.kitOne K (.ref (a_C3 K)) (.ref (a_C12 K)) = some false),
 fun K => decide (W.kitOne K (.ref (a_C5 K)) (.ref (a_C12 K)) = some false),
 fun K => tuB K (a_TE15_0 K) [],
 fun K => tuB K (a_TE15_1 K) [],
 fun K => decide (([(a_PA_law K)] : List Addr).Nodup)]
def cks : List (List Ck) := [cks0, cks1, cks2, cks3, cks4, cks5, cks6, cks7, cks8]
def fns : List FnQ := [⟨fun K => a_f0 K, "_law_bag", "_law_bag", defArgs st_bag, defBody st_bag, defScope st_bag⟩,
 ⟨fun K => a_f1 K, "_law_take", "_law_take", defArgs st_take, defBody st_take, defScope st_take⟩,
 ⟨fun K => a_f2 K, "_law_of", "_law_of", defArgs st_of, defBody st_of, defScope st_of⟩,
 ⟨fun K => a_f3 K, "_law_names", "_law_names", defArgs st_names, defBody st_names, defScope st_names⟩,
 ⟨fun K => a_f4 K, "_law_keys", "_law_keys", defArgs st_keys, defBody st_keys, defScope st_keys⟩,
 ⟨fun K => a_f5 K, "_law_owners", "_law_owners", defArgs st_owners, defBody st_owners, defScope st_owners⟩,
 ⟨fun K => a_f6 K, "_law_integer", "_law_integer", defArgs st_integer, defBody st_integer, defScope st_integer⟩,
 ⟨fun K => a_f7 K, "_law_rows", "_law_rows", defArgs st_rows, defBody st_rows, defScope st_rows⟩,
 ⟨fun K => a_f8 K, "is_name", "is_name", defArgs st_is_name, defBody st_is_name, defScope st_is_name⟩,
 ⟨fun K => a_f9 K, "is_key", "is_key", defArgs st_is_key, defBody st_is_key, defScope st_is_key⟩,
 ⟨fun K => a_f10 K, "__init__", "InvalidPart.__init__", defArgs st_InvalidPart__init, defBody st_InvalidPart__init, defScope st_InvalidPart__init⟩,
 ⟨fun K => a_f11 K, "is_integer", "is_integer", defArgs st_is_integer, defBody st_is_integer, defScope st_is_integer⟩,
 ⟨fun K => a_f12 K, "checked_rows", "checked_rows", defArgs st_checked_rows, defBody st_checked_rows, defScope st_checked_rows⟩,
 ⟨fun K => a_f13 K, "owner_of", "owner_of", defArgs st_owner_of, defBody st_owner_of, defScope st_owner_of⟩,
 ⟨fun K => a_f14 K, "checked_owners", "checked_owners", defArgs st_checked_owners, defBody st_checked_owners, defScope st_checked_owners⟩,
 ⟨fun K => a_f15 K, "__init__", "Store.__init__", defArgs st_Store__init, defBody st_Store__init, defScope st_Store__init⟩,
 ⟨fun K => a_f16 K, "all_owners", "Store.all_owners", defArgs st_Store_all_owners, defBody st_Store_all_owners, defScope st_Store_all_owners⟩,
 ⟨fun K => a_f17 K, "_law_value", "_law_value", defArgs st_value, defBody st_value, defScope st_value⟩,
 ⟨fun K => a_f18 K, "_law_writes", "_law_writes", defArgs st_writes, defBody st_writes, defScope st_writes⟩,
 ⟨fun K => a_f19 K, "_law_reason", "_law_reason", defArgs st_reason, defBody st_reason, defScope st_reason⟩,
 ⟨fun K => a_f20 K, "_law_do", "_law_do", defArgs st_do, defBody st_do, defScope st_do⟩,
 ⟨fun K => a_f21 K, "__init__", "Batch.__init__", defArgs st_Batch__init, defBody st_Batch__init, defScope st_Batch__init⟩,
 ⟨fun K => a_f22 K, "batch", "Store.batch", defArgs st_Store_batch, defBody st_Store_batch, defScope st_Store_batch⟩,
 ⟨fun K => a_f23 K, "__enter__", "Batch.__enter__", defArgs st_Batch__enter, defBody st_Batch__enter, defScope st_Batch__enter⟩,
 ⟨fun K => a_f24 K, "__exit__", "Batch.__exit__", defArgs st_Batch__exit, defBody st_Batch__exit, defScope st_Batch__exit⟩,
 ⟨fun K => a_f25 K, "in_batch", "in_batch", defArgs st_in_batch, defBody st_in_batch, defScope st_in_batch⟩,
 ⟨fun K => a_f26 K, "has_owner", "Store.has_owner", defArgs st_Store_has_owner, defBody st_Store_has_owner, defScope st_Store_has_owner⟩,
 ⟨fun K => a_f27 K, "row", "Store.row", defArgs st_Store_row, defBody st_Store_row, defScope st_Store_row⟩,
 ⟨fun K => a_f28 K, "reason_of", "reason_of", defArgs st_reason_of, defBody st_reason_of, defScope st_reason_of⟩,
 ⟨fun K => a_f29 K, "refusal", "Batch.refusal", defArgs st_Batch_refusal, defBody st_Batch_refusal, defScope st_Batch_refusal⟩,
 ⟨fun K => a_f30 K, "__init__", "WriteRefused.__init__", defArgs st_WriteRefused__init, defBody st_WriteRefused__init, defScope st_WriteRefused__init⟩,
 ⟨fun K => a_f31 K, "bear", "Store.bear", defArgs st_Store_bear, defBody st_Store_bear, defScope st_Store_bear⟩,
 ⟨fun K => a_f32 K, "put", "Store.put", defArgs st_Store_put, defBody st_Store_put, defScope st_Store_put⟩,
 ⟨fun K => a_f33 K, "__init__", "Missing.__init__", defArgs st_Missing__init, defBody st_Missing__init, defScope st_Missing__init⟩,
 ⟨fun K => a_f34 K, "drop", "Store.drop", defArgs st_Store_drop, defBody st_Store_drop, defScope st_Store_drop⟩,
 ⟨fun K => a_f35 K, "do_write", "do_write", defArgs st_do_write, defBody st_do_write, defScope st_do_write⟩,
 ⟨fun K => a_f36 K, "write", "Batch.write", defArgs st_Batch_write, defBody st_Batch_write, defScope st_Batch_write⟩,
 ⟨fun K => a_f37 K, "_law_tried", "_law_tried", defArgs st_tried, defBody st_tried, defScope st_tried⟩,
 ⟨fun K => a_f38 K, "all_rows", "Store.all_rows", defArgs st_Store_all_rows, defBody st_Store_all_rows, defScope st_Store_all_rows⟩,
 ⟨fun K => a_f39 K, "_law_seen", "_law_seen", defArgs st_seen, defBody st_seen, defScope st_seen⟩,
 ⟨fun K => a_f40 K, "law", "law", defArgs st_law, defBody st_law, defScope st_law⟩]
def dcs : List TabQ := []
def tbs : List (W.Frag → Addr) := [fun K => a_f40 K]
def prog : Program := PySem.Challenge.pw_chunkedloads_k12_writes
def view : Program := { prog with main := { prog.main with body := [top 38] } }
def loose : List Str := (["_wall", "LoadError", "InvalidPart", "Missing", "WriteRefused", "LETTERS", "MOST_SIGNS", "is_name", "GREATEST", "is_key", "is_integer", "owner_of", "checked_rows", "checked_owners", "Content"] : List Str) ++ (["Store", "in_batch", "reason_of", "do_write", "Batch", "_law_bag", "_law_take", "_law_of", "_law_names", "_law_integer", "_law_value", "_law_keys", "_law_rows", "_law_owners", "_law_reason"] : List Str) ++ (["_law_do", "_law_writes", "_law_tried", "_law_seen"] : List Str)
def looks (g : Addr → Option Obj) : AlP := obsP 30000 cks fns dcs tbs g
end Wk12
namespace PI
open PySem PySem.Spec PyProof.Rows L2
inductive XC where
 | own (c : Nat) | bi (n : String)
inductive AV where
 | non | bl (b : Bool) | int (i : Int) | str (x : Str) | tup (xs : List AV) | fl (xs : List AV) | fd (kvs : List (Key × AV))
 | ref (n : Nat) | cls (c : Nat) | ty (n : String) | fn (f : Nat) | kd (d : Nat) | obj (c : Nat) (fs : List (Nat × AV))
 | mL (xs : List AV) | mD (kvs : List (Key × AV)) | mI (c : Nat) (fs : List (Nat × AV)) | mE (x : XC) (fs : List (Nat × AV))
inductive AO where
 | lst (xs : List AV) | dk (kvs : List (Key × AV)) | ins (c : Nat) (fs : List (Nat × AV))
abbrev AH := List (Option AO)
abbrev AS := List (Option AV)
abbrev SL := L2.St
structure Gx where
 K : PySem.W.Frag
 ca : Nat → Addr
 fa : Nat → Addr
 da : Nat → Addr
 nm : Nat → Str
 inj : ∀ i j, nm i = nm j → i = j
 tb : List (Addr × Str) := []
structure Cfg where
 Z : Addr → Prop
 rho : Nat → Addr
 h : AH
 H : Hp
def NA (c : Cfg) (a : Addr) : Prop := ∀ (n : Nat) (o : AO), c.h[n]? = some (some o) → c.rho n ≠ a
def Frz (c : Cfg) (a : Addr) : Prop := NA c a ∧ ¬ c.Z a
def KLst (K : PySem.W.Frag) (a : Addr) (xs : List V) : Prop :=
 ∃ (o : Obj) (its : Array Value) (n : Nat), K.lookup a = some o ∧ o.cls = .type "list" ∧ o.dict = none ∧ o.data = .seq its n ∧ its.size ≤ sizeLine ∧ Vals xs its.toList
def KTup (K : PySem.W.Frag) (a : Addr) (xs : List V) : Prop :=
 ∃ (o : Obj) (its : Array Value) (n : Nat), K.lookup a = some o ∧ o.cls = .type "tuple" ∧ o.data = .seq its n ∧ its.size ≤ sizeLine ∧ Vals xs its.toList
def kOk : Key → Bool
 | .inl _ => true
 | .inr x => PyData.strOk x
mutual
inductive RV (G : Gx) (c : Cfg) : AV → V → Prop where
 | non : RV G c .non .non
 | bl {b} : RV G c (.bl b) (.bl b)
 | int {i} : RV G c (.int i) (.int i)
 | str {x} : PyData.strOk x = true → RV G c (.str x) (.str x)
 | ty {n} : RV G c (.ty n) (.ty n)
 | cls {k} : RV G c (.cls k) (.ref (G.ca k))
 | fn {f} : RV G c (.fn f) (.ref (G.fa f))
 | kd {d} : RV G c (.kd d) (.ref (G.da d))
 | ref {n} : n < c.h.length → RV G c (.ref n) (.ref (c.rho n))
 | tup {a xs us} : Rd c.H a (.tup us) → Frz c a → RVs G c xs us → RV G c (.tup xs) (.ref a)
 | tupK {a xs us} : KTup G.K a us → RVs G c xs us → RV G c (.tup xs) (.ref a)
 | fl {a xs us} : Rd c.H a (.lst us) → Frz c a → RVs G c xs us → RV G c (.fl xs) (.ref a)
 | flK {a xs us} : KLst G.K a us → RVs G c xs us → RV G c (.fl xs) (.ref a)
 | fd {a xs us} : Rd c.H a (.dK us) → Frz c a → RVd G c xs us → RV G c (.fd xs) (.ref a)
 | obj {a k fs dx uf} : c.H a = some (.ins (G.ca k) dx uf) → Frz c a → RVf G c fs uf → RV G c (.obj k fs) (.ref a)
inductive RVs (G : Gx) (c : Cfg) : List AV → List V → Prop where
 | nil : RVs G c [] []
 | cons {x xs u us} : RV G c x u → RVs G c xs us → RVs G c (x :: xs) (u :: us)
inductive RVf (G : Gx) (c : Cfg) : List (Nat × AV) → List (Str × V) → Prop where
 | nil : RVf G c [] []
 | cons {f x xs u us} : RV G c x u → RVf G c xs us → RVf G c ((f, x) :: xs) ((G.nm f, u) :: us)
inductive RVd (G : Gx) (c : Cfg) : List (Key × AV) → List (Key × V) → Prop where
 | nil : RVd G c [] []
 | cons {k x xs u us} : kOk k = true → RV G c x u → RVd G c xs us → RVd G c ((k, x) :: xs) ((k, u) :: us)
end
def RO (G : Gx) (c : Cfg) : AO → Addr → Prop
 | .lst xs, a => ∃ us, c.H a = some (.lst us) ∧ RVs G c xs us
 | .dk kvs, a => ∃ us, c.H a = some (.dK us) ∧ RVd G c kvs us
 | .ins k fs, a => ∃ dx uf, c.H a = some (.ins (G.ca k) dx uf) ∧ RVf G c fs uf
theorem beyond {h : AH} {n : Nat} {x : Option AO} (hn : h.length ≤ n) (e : h[n]? = some x) : False := by
 rw [List.getElem?_eq_none_iff.mpr hn] at e
 cases e
def isTbl : HO → Bool
 | .tbl _ => true
 | _ => false
def isHid : HO → Bool
 | .tbl _ => true
 | .ext _ => true
 | _ => false
theorem notHid_ro {G : Gx} {c : Cfg} {o : AO} {a : Addr} {u : HO} (r : RO G c o a) (e : c.H a = some u) (hu : isHid u = true) : False := by
 cases o with
 | lst xs => obtain ⟨us, q, _⟩ := r; rw [e] at q; cases q; cases hu
 | dk xs => obtain ⟨us, q, _⟩ := r; rw [e] at q; cases q; cases hu
 | ins k fs => obtain ⟨dx, uf, q, _⟩ := r; rw [e] at q; cases q; cases hu
def TbAt (H : Hp) (P : Addr) (q : Str) : Prop := ∃ ps : Array Value, H P = some (.tbl ps) ∧ TriplesOk ps.toList ∧ (q ≠ Str.empty → ∀ (pos : Pos) (cv : Value), codeAmong pos ps.toList = some cv → ∃ c, cv = .ref c ∧ H c = some (LamX.CodeO c q))
theorem TbAt.of {H H' : Hp} {P : Addr} {q : Str} (t : TbAt H P q) (e : ∀ b o, H b = some o → isHid o = true → H' b = some o) : TbAt H' P q :=
 let ⟨ps, z, t, cs⟩ := t
 ⟨ps, e _ _ z rfl, t, fun hq pos cv hc => let ⟨c, h1, h2⟩ := cs hq pos cv hc; ⟨c, h1, e _ _ h2 rfl⟩⟩
structure Rel (G : Gx) (c : Cfg) : Prop where
 obj : ∀ (n : Nat) (o : AO), c.h[n]? = some (some o) → RO G c o (c.rho n)
 inj : ∀ (n m : Nat) (o o' : AO), c.h[n]? = some (some o) → c.h[m]? = some (some o') → c.rho n = c.rho m → n = m
 zok : ∀ a, c.Z a → NA c a ∧ ∃ o, c.H a = some o ∧ isHid o = false
 tab : ∀ p, p ∈ G.tb → TbAt c.H p.1 p.2
structure Mv (c c' : Cfg) : Prop where
 len : c.h.length ≤ c'.h.length
 dead : ∀ n : Nat, c.h[n]? = some none → c'.h[n]? = some none
 same : ∀ n : Nat, n < c.h.length → c'.rho n = c.rho n
 fresh : ∀ (n : Nat) (o : AO), c.h.length ≤ n → c'.h[n]? = some (some o) → c.H (c'.rho n) = none
 keep : ∀ b o, c.H b = some o → isTbl o = false → Frz c b → c'.H b = some o
 zf : ∀ b o, c.H b = some o → Frz c b → ¬ c'.Z b
 there : ∀ b o, c.H b = some o → ∃ o', c'.H b = some o'
structure Nxt (G : Gx) (c c' : Cfg) : Prop where
 rel : Rel G c'
 mv : Mv c c'
 z : c'.Z = c.Z
 zz : ∀ a, c.Z a → c'.H a = c.H a
section
variable {G : Gx} {c c' c2 : Cfg} {a b : Addr} {n : Nat}
theorem RO.there {o : AO} (r : RO G c o a) : ∃ u, c.H a = some u := by
 cases o with
 | lst xs => obtain ⟨_, e, _⟩ := r; exact ⟨_, e⟩
 | dk xs => obtain ⟨_, e, _⟩ := r; exact ⟨_, e⟩
 | ins c fs => obtain ⟨_, _, e, _⟩ := r; exact ⟨_, e⟩
theorem Rel.there {o : AO} (r : Rel G c) (e : c.h[n]? = some (some o)) : ∃ u, c.H (c.rho n) = some u := (r.obj n o e).there
theorem Rel.na (r : Rel G c) (e : c.H a = none) : NA c a := fun n o q z => by
 obtain ⟨u, hu⟩ := r.there q
 rw [z, e] at hu
 cases hu
theorem Rel.nz (r : Rel G c) (e : c.H a = none) : ¬ c.Z a := fun z => by
 obtain ⟨_, o, q, _⟩ := r.zok a z
 rw [e] at q
 cases q
theorem Rel.frz (r : Rel G c) (e : c.H a = none) : Frz c a := ⟨r.na e, r.nz e⟩
theorem Mv.alive {o : AO} (N : Mv c c') (hn : n < c.h.length) (e : c'.h[n]? = some (some o)) : ∃ o', c.h[n]? = some (some o') := by
 cases q : c.h[n]? with
 | none => rw [List.getElem?_eq_none_iff] at q; omega
 | some x =>
  cases x with
  | none => rw [N.dead n q] at e; cases e
  | some o' => exact ⟨o', rfl⟩
theorem Mv.na {o : HO} (N : Mv c c') (f : NA c b) (e : c.H b = some o) : NA c' b := fun n o' q z => by
 by_cases hn : n < c.h.length
 ·obtain ⟨o2, q2⟩ := N.alive hn q
  exact f n o2 q2 ((N.same n hn).symm.trans z)
 ·have y := N.fresh n o' (by omega) q
  rw [z, e] at y
  cases y
theorem Mv.frz {o : HO} (N : Mv c c') (f : Frz c b) (e : c.H b = some o) : Frz c' b := ⟨N.na f.1 e, N.zf b o e f⟩
theorem Mv.refl : Mv c c := ⟨Nat.le_refl _, fun _ e => e, fun _ _ => rfl, fun n o hn e => (beyond hn e).elim, fun _ _ e _ _ => e, fun _ _ _ f => f.2, fun _ o e => ⟨o, e⟩⟩
theorem Mv.trans (A : Mv c c') (B : Mv c' c2) : Mv c c2 where
 len := Nat.le_trans A.len B.len
 dead := fun n e => B.dead n (A.dead n e)
 same := fun n hn => (B.same n (Nat.lt_of_lt_of_le hn A.len)).trans (A.same n hn)
 keep := fun b o e t f => B.keep b o (A.keep b o e t f) t (A.frz f e)
 zf := fun b o e f => let ⟨o', e'⟩ := A.there b o e; B.zf b o' e' (A.frz f e)
 there := fun b o e => let ⟨o', e'⟩ := A.there b o e; B.there b o' e'
 fresh := fun n o hn e => by
  by_cases hm : n < c'.h.length
  ·obtain ⟨o', e'⟩ := B.alive hm e
   rw [B.same n hm]
   exact A.fresh n o' hn e'
  ·have y := B.fresh n o (by omega) e
   cases q : c.H (c2.rho n) with
   | none => rfl
   | some u =>
    obtain ⟨o', e'⟩ := A.there _ _ q
    rw [y] at e'; cases e'
theorem Mv.rd {u : HO} (N : Mv c c') (r : Rd c.H a u) (f : Frz c a) (hu : isTbl u = false := by rfl) : Rd c'.H a u ∧ Frz c' a := by
  rcases r with e | ⟨o, e⟩
  · exact ⟨.inl (N.keep _ _ e hu f), N.frz f e⟩
  · exact ⟨.inr ⟨o, N.keep _ _ e rfl f⟩, N.frz f e⟩
mutual
theorem RV.mono (N : Mv c c') : ∀ {v : AV} {u : V}, RV G c v u → RV G c' v u
 | _, _, .non => .non
 | _, _, .bl => .bl
 | _, _, .int => .int
 | _, _, .str k => .str k
 | _, _, .ty => .ty
 | _, _, .cls => .cls
 | _, _, .fn => .fn
 | _, _, .kd => .kd
 | _, _, .ref (n := n) hn => by rw [← N.same n hn]; exact .ref (Nat.lt_of_lt_of_le hn N.len)
 | _, _, .tup r f x => .tup (N.rd r f).1 (N.rd r f).2 (RVs.mono N x)
 | _, _, .tupK k x => .tupK k (RVs.mono N x)
 | _, _, .fl r f x => .fl (N.rd r f).1 (N.rd r f).2 (RVs.mono N x)
 | _, _, .flK k x => .flK k (RVs.mono N x)
 | _, _, .fd r f x => .fd (N.rd r f).1 (N.rd r f).2 (RVd.mono N x)
 | _, _, .obj e f x => .obj (N.keep _ _ e rfl f) (N.frz f e) (RVf.mono N x)
theorem RVs.mono (N : Mv c c') : ∀ {v : List AV} {u : List V}, RVs G c v u → RVs G c' v u
 | _, _, .nil => .nil
 | _, _, .cons r x => .cons (RV.mono N r) (RVs.mono N x)
theorem RVf.mono (N : Mv c c') : ∀ {v : List (Nat × AV)} {u : List (Str × V)}, RVf G c v u → RVf G c' v u
 | _, _, .nil => .nil
 | _, _, .cons r x => .cons (RV.mono N r) (RVf.mono N x)
theorem RVd.mono (N : Mv c c') : ∀ {v : List (Key × AV)} {u : List (Key × V)}, RVd G c v u → RVd G c' v u
 | _, _, .nil => .nil
 | _, _, .cons k r x => .cons k (RV.mono N r) (RVd.mono N x)
end
theorem Nxt.refl (r : Rel G c) : Nxt G c c := ⟨r, .refl, rfl, fun _ _ => rfl⟩
theorem Nxt.trans (A : Nxt G c c') (B : Nxt G c' c2) : Nxt G c c2 := ⟨B.rel, A.mv.trans B.mv, B.z.trans A.z, fun a z => (B.zz a (by rw [A.z]; exact z)).trans (A.zz a z)⟩
theorem RO.mono {o : AO} (N : Mv c c') (e : c'.H a = c.H a) (r : RO G c o a) : RO G c' o a := by
 cases o with
 | lst xs => obtain ⟨us, q, x⟩ := r; exact ⟨us, e.trans q, x.mono N⟩
 | dk xs => obtain ⟨us, q, x⟩ := r; exact ⟨us, e.trans q, x.mono N⟩
 | ins c fs => obtain ⟨dx, us, q, x⟩ := r; exact ⟨dx, us, e.trans q, x.mono N⟩
theorem Nxt.grow {H' : Hp} (r : Rel G c) (s : ∀ b o, c.H b = some o → H' b = some o) : Nxt G c { c with H := H' } := by
 have N : Mv c { c with H := H' } := ⟨Nat.le_refl _, fun _ e => e, fun _ _ => rfl, fun n o hn e => (beyond hn e).elim, fun b o e _ _ => s b o e, fun _ _ _ f => f.2, fun b o e => ⟨o, s b o e⟩⟩
 refine ⟨⟨fun n o e => ?_, r.inj, fun a z => ?_, fun p hp => (r.tab p hp).of fun b o e _ => s _ _ e⟩, N, rfl, fun a z => ?_⟩
 ·obtain ⟨u, hu⟩ := r.there e
  exact (r.obj n o e).mono N ((s _ _ hu).trans hu.symm)
 ·obtain ⟨q, o, e, t⟩ := r.zok a z
  exact ⟨q, o, s _ _ e, t⟩
 ·obtain ⟨q, o, e, _⟩ := r.zok a z
  exact (s _ _ e).trans e.symm
theorem Nxt.temp {p : Addr} {O : HO} (r : Rel G c) (e : c.H p = none) : Nxt G c { c with H := upd c.H p O } := .grow r fun b o q => by
 rw [upd_ne (ne_of_none q e)]; exact q
theorem Nxt.write {o o' : AO} {O : HO} (r : Rel G c) (e : c.h[n]? = some (some o)) (new : ∀ c', Mv c c' → c'.H (c.rho n) = some O → RO G c' o' (c.rho n)) :
  Nxt G c { c with h := c.h.set n (some o'), H := upd c.H (c.rho n) O } := by
 have hn : n < c.h.length := by
  rcases Nat.lt_or_ge n c.h.length with q | q
  ·exact q
  ·rw [List.getElem?_eq_none_iff.mpr q] at e; cases e
 have N : Mv c { c with h := c.h.set n (some o'), H := upd c.H (c.rho n) O } := by
  refine ⟨by simp, fun m q => ?_, fun _ _ => rfl, fun m u hm q => ?_, fun b u q _ f => ?_, fun _ _ _ f => f.2, fun b u q => ?_⟩
  ·show (c.h.set n (some o'))[m]? = some none
   rw [gsn (fun z => by rw [← z, e] at q; cases q)]; exact q
  ·have q' : (c.h.set n (some o'))[m]? = some (some u) := q
   rw [List.getElem?_eq_none_iff.mpr (by simpa using hm)] at q'; cases q'
  ·show upd c.H (c.rho n) O b = some u
   rw [upd_ne (fun z => f.1 n o e z.symm)]; exact q
  ·show ∃ o', upd c.H (c.rho n) O b = some o'
   by_cases z : b = c.rho n
   ·exact ⟨O, by rw [z, upd_same]⟩
   ·exact ⟨u, by rw [upd_ne z]; exact q⟩
 have al : ∀ (m : Nat) (u : AO), (c.h.set n (some o'))[m]? = some (some u) → m ≠ n → c.h[m]? = some (some u) := fun m u q z => by
  rw [gsn (Ne.symm z)] at q; exact q
 have al2 : ∀ (m : Nat) (u : AO), (c.h.set n (some o'))[m]? = some (some u) → ∃ u', c.h[m]? = some (some u') := fun m u q => by
  by_cases z : m = n
  ·exact ⟨o, by rw [z]; exact e⟩
  ·exact ⟨u, al m u q z⟩
 have zne : ∀ a, c.Z a → a ≠ c.rho n := fun a z y => (r.zok a z).1 n o e y.symm
 refine ⟨⟨fun m u q => ?_, fun i j u u' q q' z => ?_, fun a z => ?_, fun p hp => (r.tab p hp).of fun b u q hu => (upd_ne fun y => notHid_ro (r.obj n o e) (by rw [← y]; exact q) hu).trans q⟩, N, rfl, fun a z => upd_ne (zne a z)⟩
 ·by_cases z : m = n
  ·subst z
   have q' : (c.h.set m (some o'))[m]? = some (some u) := q
   rw [List.getElem?_set_self hn] at q'
   cases q'
   exact new _ N upd_same
  ·have q2 := al m u q z
   exact (r.obj m u q2).mono N (upd_ne fun y => z (r.inj _ _ _ _ q2 e y))
 ·obtain ⟨_, q1⟩ := al2 i u q
  obtain ⟨_, q2⟩ := al2 j u' q'
  exact r.inj _ _ _ _ q1 q2 z
 ·obtain ⟨q, o2, e2, t2⟩ := r.zok a z
  refine ⟨fun m u y => ?_, o2, (upd_ne (zne a z)).trans e2, t2⟩
  obtain ⟨_, q2⟩ := al2 m u y
  exact q m _ q2
def ext (ρ : Nat → Addr) (n : Nat) (p : Addr) : Nat → Addr := fun m => if m = n then p else ρ m
theorem ext_same {ρ : Nat → Addr} {p : Addr} : ext ρ n p n = p := if_pos rfl
theorem ext_ne {ρ : Nat → Addr} {p : Addr} {m : Nat} (e : m ≠ n) : ext ρ n p m = ρ m := if_neg e
theorem Nxt.alloc {p : Addr} {o : AO} {H' : Hp} (r : Rel G c) (e : c.H p = none) (s : ∀ b u, c.H b = some u → H' b = some u)
  (new : ∀ c', Mv c c' → c'.H = H' → RO G c' o p) : Nxt G c { c with rho := ext c.rho c.h.length p, h := c.h ++ [some o], H := H' } := by
 have N : Mv c { c with rho := ext c.rho c.h.length p, h := c.h ++ [some o], H := H' } := by
  refine ⟨by simp, fun m q => ?_, fun m hm => ext_ne (by omega), fun m u hm q => ?_, fun b u q _ _ => s b u q, fun _ _ _ f => f.2, fun b u q => ⟨u, s b u q⟩⟩
  ·have hm : m < c.h.length := by
    rcases Nat.lt_or_ge m c.h.length with z | z
    ·exact z
    ·rw [List.getElem?_eq_none_iff.mpr z] at q; cases q
   show (c.h ++ [some o])[m]? = some none
   rw [List.getElem?_append_left hm]; exact q
  ·have q' : (c.h ++ [some o])[m]? = some (some u) := q
   have : m = c.h.length := by
    rcases Nat.lt_or_ge c.h.length m with z | z
    ·rw [List.getElem?_eq_none_iff.mpr (by simp; omega)] at q'; cases q'
    ·omega
   show c.H (ext c.rho c.h.length p m) = none
   rw [this, ext_same]; exact e
 have al : ∀ (m : Nat) (u : AO), (c.h ++ [some o])[m]? = some (some u) → m ≠ c.h.length → c.h[m]? = some (some u) ∧ m < c.h.length := fun m u q z => by
  have hm : m < c.h.length := by
   rcases Nat.lt_or_ge m c.h.length with y | y
   ·exact y
   ·rw [List.getElem?_eq_none_iff.mpr (by simp; omega)] at q; cases q
  rw [List.getElem?_append_left hm] at q
  exact ⟨q, hm⟩
 have nep : ∀ (m : Nat) (u : AO), c.h[m]? = some (some u) → c.rho m ≠ p := fun m u q z => by
  obtain ⟨x, hx⟩ := r.there q
  rw [z, e] at hx; cases hx
 refine ⟨⟨fun m u q => ?_, fun i j u u' q q' z => ?_, fun a z => ?_, fun p hp => (r.tab p hp).of fun b o e _ => s _ _ e⟩, N, rfl, fun a z => ?_⟩
 ·show RO G _ u (ext c.rho c.h.length p m)
  have q0 : (c.h ++ [some o])[m]? = some (some u) := q
  by_cases hm : m = c.h.length
  ·subst hm
   rw [List.getElem?_append_right (Nat.le_refl _)] at q0
   simp at q0
   subst q0
   rw [ext_same]
   exact new _ N rfl
  ·obtain ⟨q2, hl⟩ := al m u q0 hm
   rw [ext_ne hm]
   obtain ⟨x, hx⟩ := r.there q2
   exact (r.obj m u q2).mono N ((s _ _ hx).trans hx.symm)
 ·have z' : ext c.rho c.h.length p i = ext c.rho c.h.length p j := z
  by_cases hi : i = c.h.length
  ·by_cases hj : j = c.h.length
   ·rw [hi, hj]
   ·obtain ⟨q2, _⟩ := al j u' q' hj
    rw [hi, ext_same, ext_ne hj] at z'
    exact absurd z'.symm (nep j u' q2)
  ·obtain ⟨q1, _⟩ := al i u q hi
   by_cases hj : j = c.h.length
   ·rw [hj, ext_same, ext_ne hi] at z'
    exact absurd z' (nep i u q1)
   ·obtain ⟨q2, _⟩ := al j u' q' hj
    rw [ext_ne hi, ext_ne hj] at z'
    exact r.inj _ _ _ _ q1 q2 z'
 ·obtain ⟨q, o2, e2, t2⟩ := r.zok a z
  refine ⟨N.na q e2, o2, s _ _ e2, t2⟩
 ·obtain ⟨q, o2, e2, _⟩ := r.zok a z
  exact (s _ _ e2).trans e2.symm
theorem Nxt.kill (r : Rel G c) : Nxt G c { c with h := c.h.set n none } := by
 have al : ∀ (m : Nat) (u : AO), (c.h.set n none)[m]? = some (some u) → m ≠ n ∧ c.h[m]? = some (some u) := fun m u q => by
  by_cases z : m = n
  ·subst z
   by_cases hn : m < c.h.length
   ·rw [List.getElem?_set_self hn] at q; cases q
   ·rw [List.getElem?_eq_none_iff.mpr (by simpa using hn)] at q; cases q
  ·rw [gsn (Ne.symm z)] at q; exact ⟨z, q⟩
 have N : Mv c { c with h := c.h.set n none } := by
  refine ⟨by simp, fun m q => ?_, fun _ _ => rfl, fun m u hm q => ?_, fun b u q _ _ => q, fun _ _ _ f => f.2, fun b u q => ⟨u, q⟩⟩
  ·show (c.h.set n none)[m]? = some none
   by_cases z : m = n
   ·subst z
    rcases Nat.lt_or_ge m c.h.length with y | y
    ·rw [List.getElem?_set_self y]
    ·rw [List.getElem?_eq_none_iff.mpr y] at q; cases q
   ·rw [gsn (Ne.symm z)]; exact q
  ·have q' : (c.h.set n none)[m]? = some (some u) := q
   rw [List.getElem?_eq_none_iff.mpr (by simpa using hm)] at q'; cases q'
 exact ⟨⟨fun m u q => (r.obj m u (al m u q).2).mono N rfl, fun i j u u' q q' z => r.inj _ _ _ _ (al i u q).2 (al j u' q').2 z, fun a z => ⟨fun m u q => (r.zok a z).1 m u (al m u q).2, (r.zok a z).2⟩, r.tab⟩, N, rfl, fun _ _ => rfl⟩
theorem kill_frz {o : AO} (r : Rel G c) (e : c.h[n]? = some (some o)) : Frz { c with h := c.h.set n none } (c.rho n) := by
 refine ⟨fun m u q z => ?_, fun z => (r.zok _ z).1 n o e rfl⟩
 have q' : (c.h.set n none)[m]? = some (some u) := q
 by_cases y : m = n
 ·subst y
  have hn : m < c.h.length := by
   rcases Nat.lt_or_ge m c.h.length with q | q
   ·exact q
   ·rw [List.getElem?_eq_none_iff.mpr q] at e; cases e
  rw [List.getElem?_set_self hn] at q'; cases q'
 ·rw [gsn (Ne.symm y)] at q'
  exact y (r.inj _ _ _ _ q' e z)
theorem RVs.length {vs : List AV} {us : List V} : ∀ (r : RVs G c vs us), vs.length = us.length
 | .nil => rfl
 | .cons _ r => by rw [List.length_cons, List.length_cons, r.length]
theorem RVd.length {vs : List (Key × AV)} {us : List (Key × V)} : ∀ (r : RVd G c vs us), vs.length = us.length
 | .nil => rfl
 | .cons _ _ r => by rw [List.length_cons, List.length_cons, r.length]
theorem RVf.length {vs : List (Nat × AV)} {us : List (Str × V)} : ∀ (r : RVf G c vs us), vs.length = us.length
 | .nil => rfl
 | .cons _ r => by rw [List.length_cons, List.length_cons, r.length]
theorem Mv.fewer {Z' : Addr → Prop} (s : ∀ a, Z' a → c.Z a) : Mv c { c with Z := Z' } :=
 ⟨Nat.le_refl _, fun _ e => e, fun _ _ => rfl, fun n o hn e => (beyond hn e).elim, fun _ _ e _ _ => e, fun b _ _ f z => f.2 (s b z), fun _ o e => ⟨o, e⟩⟩
theorem Rel.fewer {Z' : Addr → Prop} (r : Rel G c) (s : ∀ a, Z' a → c.Z a) : Rel G { c with Z := Z' } :=
 ⟨fun n o e => (r.obj n o e).mono (Mv.fewer s) rfl, r.inj, fun a z => r.zok a (s a z), r.tab⟩
theorem Mv.mine {p : Addr} {O : HO} (e : c.H p = none) : Mv c { c with Z := fun a => c.Z a ∨ a = p, H := upd c.H p O } :=
 ⟨Nat.le_refl _, fun _ e => e, fun _ _ => rfl, fun n o hn e => (beyond hn e).elim,
  fun b o q _ _ => (upd_ne (ne_of_none q e)).trans q, fun b o q f z => Or.elim z f.2 (ne_of_none q e), fun b o q => ⟨o, (upd_ne (ne_of_none q e)).trans q⟩⟩
theorem Rel.mine {p : Addr} {O : HO} (r : Rel G c) (e : c.H p = none) (ht : isHid O = false := by rfl) : Rel G { c with Z := fun a => c.Z a ∨ a = p, H := upd c.H p O } := by
  refine ⟨fun n o q => ?_, r.inj, fun a z => ?_, fun p hp => (r.tab p hp).of fun b u q _ => (upd_ne (ne_of_none q e)).trans q⟩
  · obtain ⟨u, hu⟩ := r.there q
    exact (r.obj n o q).mono (Mv.mine e) (upd_ne (ne_of_none hu e))
  · rcases z with z | z
    · obtain ⟨q, o, y, t⟩ := r.zok a z
      exact ⟨q, o, (upd_ne (ne_of_none y e)).trans y, t⟩
    · subst z
      exact ⟨r.na e, O, upd_same, ht⟩
theorem Mv.turn {p : Addr} {O : HO} (z : c.Z p) : Mv c { c with H := upd c.H p O } :=
  ⟨Nat.le_refl _, fun _ e => e, fun _ _ => rfl, fun n o hn e => (beyond hn e).elim,
    fun b o q _ f => (upd_ne (fun y => f.2 (by rw [y]; exact z))).trans q, fun b o q f => f.2, fun b o q => by
      by_cases y : b = p
      · refine ⟨O, ?_⟩
        show upd c.H p O b = _
        rw [y, upd_same]
      · exact ⟨o, (upd_ne y).trans q⟩⟩
theorem Rel.turn {p : Addr} {O : HO} (r : Rel G c) (z : c.Z p) (ht : isHid O = false := by rfl) : Rel G { c with H := upd c.H p O } := by
  refine ⟨fun n o q => ?_, r.inj, fun a y => ?_, fun p' hp => (r.tab p' hp).of fun b u q hu => (upd_ne fun y => by
    obtain ⟨_, o, q2, t⟩ := r.zok p z
    rw [y, q2] at q
    cases q
    rw [t] at hu
    cases hu).trans q⟩
  · exact (r.obj n o q).mono (Mv.turn z) (upd_ne fun y => (r.zok p z).1 n o q y)
  · obtain ⟨q, o, e, t⟩ := r.zok a y
    by_cases x : a = p
    · refine ⟨q, O, ?_, ht⟩
      show upd c.H p O a = _
      rw [x, upd_same]
    · exact ⟨q, o, (upd_ne x).trans e, t⟩
theorem Nxt.tbl {P : Addr} {ps ps' : Array Value} (r : Rel G c) (e : c.H P = some (.tbl ps)) (ht : TriplesOk ps'.toList) (hc : ∀ q, (P, q) ∈ G.tb → q ≠ Str.empty → ∀ (pos : Pos) (cv : Value), codeAmong pos ps'.toList = some cv → ∃ c0, cv = .ref c0 ∧ c.H c0 = some (LamX.CodeO c0 q)) : Nxt G c { c with H := upd c.H P (.tbl ps') } := by
 have hn : ∀ (n : Nat) (o : AO), c.h[n]? = some (some o) → c.rho n ≠ P := fun n o q z => by
  have := r.obj n o q
  rw [z] at this
  cases o with
  | lst xs => obtain ⟨us, q, _⟩ := this; rw [e] at q; cases q
  | dk xs => obtain ⟨us, q, _⟩ := this; rw [e] at q; cases q
  | ins k fs => obtain ⟨dx, uf, q, _⟩ := this; rw [e] at q; cases q
 have hz : ∀ a, c.Z a → a ≠ P := fun a z y => by
  obtain ⟨_, o, q, t⟩ := r.zok a z
  rw [y, e] at q
  cases q
  cases t
 have N : Mv c { c with H := upd c.H P (.tbl ps') } := by
  refine ⟨Nat.le_refl _, fun _ e => e, fun _ _ => rfl, fun n o hn e => (beyond hn e).elim, fun b o q t _ => ?_, fun _ _ _ f => f.2, fun b o q => ?_⟩
  ·show upd c.H P (.tbl ps') b = some o
   rw [upd_ne fun y => by rw [y, e] at q; cases q; cases t]
   exact q
  ·show ∃ o', upd c.H P (.tbl ps') b = some o'
   by_cases y : b = P
   ·exact ⟨_, by rw [y, upd_same]⟩
   ·exact ⟨o, by rw [upd_ne y]; exact q⟩
 refine ⟨⟨fun n o q => (r.obj n o q).mono N (upd_ne (hn n o q)), r.inj, fun a z => ?_, fun p hp => ?_⟩, N, rfl, fun a z => upd_ne (hz a z)⟩
 ·obtain ⟨q, o, y, t⟩ := r.zok a z
  exact ⟨q, o, (upd_ne (hz a z)).trans y, t⟩
 ·have nP : ∀ (c0 : Addr) (q : Str), c.H c0 = some (LamX.CodeO c0 q) → upd c.H P (.tbl ps') c0 = some (LamX.CodeO c0 q) := fun c0 q h => by
   rw [upd_ne fun y => by rw [y, e] at h; cases h]
   exact h
  obtain ⟨Q, q⟩ := p
  by_cases y : Q = P
  ·subst y
   exact ⟨ps', upd_same, ht, fun hq pos cv hcv => let ⟨c0, h1, h2⟩ := hc q hp hq pos cv hcv; ⟨c0, h1, nP c0 q h2⟩⟩
  ·obtain ⟨us, h1, h2, h3⟩ := r.tab _ hp
   exact ⟨us, (upd_ne y).trans h1, h2, fun hq pos cv hcv => let ⟨c0, h4, h5⟩ := h3 hq pos cv hcv; ⟨c0, h4, nP c0 q h5⟩⟩
end
end PI
namespace PI
open PySem PySem.Spec PyProof.Rows L2
def Gx.xv (G : Gx) : XC → Value
 | .own c => .ref (G.ca c)
 | .bi n => .type n
inductive Res (α : Type) where
 | ok (a : α) (h : AH) | exc (x : XC) (fs : List (Nat × AV)) (h : AH) | stuck
def Res.bind {α β : Type} (r : Res α) (f : α → AH → Res β) : Res β := match r with
 | .ok a h => f a h
 | .exc x fs h => .exc x fs h
 | .stuck => .stuck
def Res.of {α : Type} : Option (α × AH) → Res α
 | some (a, h) => .ok a h
 | none => .stuck
def RX (G : Gx) (c : Cfg) (x : XC) (fs : List (Nat × AV)) (cls : Value) (d : Option Addr) : Prop :=
 cls = G.xv x ∧ ((fs = [] ∧ (d = none ∨ ∃ n, x = .bi n)) ∨ ∃ dd uf, d = some dd ∧ c.H dd = some (.xd uf) ∧ Frz c dd ∧ RVf G c fs uf)
abbrev RR (α β : Type) := Cfg → α → β → Prop
def Post {α β : Type} (G : Gx) (R : RR α β) (c : Cfg) (W : XK) (Q : β → Hp → Prop) : Res α → Prop
 | .ok v h' => ∀ c' u, Nxt G c c' → c'.h = h' → R c' v u → Q u c'.H
 | .exc x fs h' => ∀ c' cls d, Nxt G c c' → c'.h = h' → RX G c' x fs cls d → W cls d c'.H
 | .stuck => False
structure Bx where
 ea : Addr
 ec : Value
 ed : Option Addr
 me : Addr
inductive SR (G : Gx) (B : Bx) (c : Cfg) : List Addr → Option AV → Option V → Prop where
 | skip {o} : SR G B c [] none o
 | val {v u} : RV G c v u → SR G B c [] (some v) (some u)
 | mL {a xs us} : c.Z a → c.H a = some (.lst us) → RVs G c xs us → SR G B c [a] (some (.mL xs)) (some (.ref a))
 | mD {a xs us} : c.Z a → c.H a = some (.dK us) → RVd G c xs us → SR G B c [a] (some (.mD xs)) (some (.ref a))
 | mI {k fs dx us} : c.Z B.me → c.H B.me = some (.ins (G.ca k) dx us) → RVf G c fs us → SR G B c [B.me] (some (.mI k fs)) (some (.ref B.me))
 | mE {x fs} : RX G c x fs B.ec B.ed → SR G B c [] (some (.mE x fs)) (some (.ref B.ea))
inductive RS (G : Gx) (B : Bx) (c : Cfg) : List Addr → AS → SL → Prop where
 | nil : RS G B c [] [] []
 | cons {l L o s τ σ} : SR G B c l o s → RS G B c L τ σ → RS G B c (l ++ L) (o :: τ) (s :: σ)
def plainV : AV → Bool
 | .mL _ => false
 | .mD _ => false
 | .mI _ _ => false
 | .mE _ _ => false
 | _ => true
section
variable {G : Gx} {B : Bx} {c c' : Cfg} {α β γ δ : Type} {R : RR α β} {R' : RR γ δ} {W W' : XK} {Q Q' : β → Hp → Prop} {L : List Addr} {τ : AS} {σ : SL}
theorem Post.trans (N : Nxt G c c') {r : Res α} (p : Post G R c W Q r) : Post G R c' W Q r := by
 cases r with
 | ok v h1 => exact fun c2 u M => p c2 u (N.trans M)
 | exc x fs h1 => exact fun c2 cl d M => p c2 cl d (N.trans M)
 | stuck => exact p
theorem Post.bind {r : Res α} {f : α → AH → Res γ} {Q : δ → Hp → Prop} (p : Post G R' c W Q (r.bind f)) :
  Post G R c W (fun u H1 => ∃ c1 v, H1 = c1.H ∧ Nxt G c c1 ∧ R c1 v u ∧ Post G R' c1 W Q (f v c1.h)) r := by
 cases r with
 | ok v h1 => exact fun c2 u N e q => ⟨c2, v, rfl, N, q, by rw [e]; exact Post.trans N p⟩
 | exc x fs h1 => exact p
 | stuck => exact p
theorem Post.imp {r : Res α} (p : Post G R c W Q r) (f : ∀ u H, Q u H → Q' u H) : Post G R c W Q' r := by
 cases r with
 | ok v h1 => exact fun c2 u N e q => f _ _ (p c2 u N e q)
 | exc x fs h1 => exact p
 | stuck => exact p
theorem RX.mono {x : XC} {fs : List (Nat × AV)} {cls : Value} {d : Option Addr} (N : Mv c c') (r : RX G c x fs cls d) : RX G c' x fs cls d := by
 obtain ⟨e, r⟩ := r
 refine ⟨e, ?_⟩
 rcases r with r | ⟨dd, uf, e1, r1, f1, x1⟩
 ·exact .inl r
 ·exact .inr ⟨dd, uf, e1, N.keep _ _ r1 rfl f1, N.frz f1 r1, x1.mono N⟩
theorem SR.mono {l : List Addr} {o : Option AV} {t : Option V} (N : Mv c c') (r : SR G B c l o t) (z : ∀ a, a ∈ l → c'.Z a ∧ c'.H a = c.H a) : SR G B c' l o t := by
 cases r with
 | skip => exact .skip
 | val x => exact .val (x.mono N)
 | mL z1 e x => exact .mL (z _ List.mem_cons_self).1 ((z _ List.mem_cons_self).2.trans e) (x.mono N)
 | mD z1 e x => exact .mD (z _ List.mem_cons_self).1 ((z _ List.mem_cons_self).2.trans e) (x.mono N)
 | mI z1 e x => exact .mI (z _ List.mem_cons_self).1 ((z _ List.mem_cons_self).2.trans e) (x.mono N)
 | mE x => exact .mE (x.mono N)
theorem SR.z {l : List Addr} {o : Option AV} {t : Option V} (r : SR G B c l o t) : ∀ a, a ∈ l → c.Z a := by
 cases r with
 | mL z1 _ _ => intro a h; rw [List.mem_singleton] at h; rw [h]; exact z1
 | mD z1 _ _ => intro a h; rw [List.mem_singleton] at h; rw [h]; exact z1
 | mI z1 _ _ => intro a h; rw [List.mem_singleton] at h; rw [h]; exact z1
 | _ => intro a h; simp at h
theorem RS.mono (N : Mv c c') (r : RS G B c L τ σ) (z : ∀ a, a ∈ L → c'.Z a ∧ c'.H a = c.H a) : RS G B c' L τ σ := by
 induction r with
 | nil => exact .nil
 | cons x _ ih => exact .cons (x.mono N fun a h => z a (List.mem_append_left _ h)) (ih fun a h => z a (List.mem_append_right _ h))
theorem RS.z (r : RS G B c L τ σ) : ∀ a, a ∈ L → c.Z a := by
 induction r with
 | nil => intro a h; simp at h
 | cons x _ ih => intro a h; rcases List.mem_append.mp h with h | h; (exact x.z a h); exact ih a h
theorem RS.nxt (N : Nxt G c c') (r : RS G B c L τ σ) : RS G B c' L τ σ := r.mono N.mv fun a h => ⟨by rw [N.z]; exact r.z a h, N.zz a (r.z a h)⟩
theorem RS.focus (r : RS G B c L τ σ) : ∀ {i : Nat} {o : Option AV}, τ[i]? = some o → ∃ P S l s, L = P ++ l ++ S ∧ σ[i]? = some s ∧ SR G B c l o s ∧
  ∀ (c' : Cfg) l' o' s', Mv c c' → (∀ a, a ∈ P ++ S → c'.Z a ∧ c'.H a = c.H a) → SR G B c' l' o' s' → RS G B c' (P ++ l' ++ S) (τ.set i o') (σ.set i s') := by
 induction r with
 | nil => intro i o e; simp at e
 | @cons l L o s τ σ x r ih =>
  intro i o2 e
  cases i with
  | zero =>
   simp at e
   subst e
   exact ⟨[], L, l, s, by simp, rfl, x, fun c' l' o' s' N z y => by simpa using RS.cons y (r.mono N fun a h => z a (by simpa using h))⟩
  | succ i =>
   obtain ⟨P, S, l2, s2, e1, e2, x2, f⟩ := ih (i := i) (o := o2) (by simpa using e)
   refine ⟨l ++ P, S, l2, s2, by rw [e1]; simp, by simpa using e2, x2, fun c' l' o' s' N z y => ?_⟩
   have q := RS.cons (x.mono N fun a h => z a (by simp [h])) (f c' l' o' s' N (fun a h => z a (by simp at h ⊢; rcases h with h | h <;> simp [h])) y)
   simpa using q
theorem RS.get (r : RS G B c L τ σ) {i : Nat} {v : AV} (e : τ[i]? = some (some v)) (p : plainV v = true) : ∃ u, σ[i]? = some (some u) ∧ RV G c v u := by
 obtain ⟨_, _, l, s, _, e2, x, _⟩ := r.focus e
 cases x with
 | val x => exact ⟨_, e2, x⟩
 | _ => cases p
end
abbrev ME := AS → AH → Res AV
abbrev MA := AS → AH → Res (List AV)
abbrev MT := AS → AH → Res Bool
section
variable (G : Gx) (B : Bx) (W : WX)
def tI (m : ME) : TE := fun σ H Q => ∃ c τ L, c.H = H ∧ Rel G c ∧ RS G B c L τ σ ∧ Post G (RV G) c (fun k d H' => W k d σ H') Q (m τ c.h)
def tIa (m : MA) : TA := fun σ H Q => ∃ c τ L, c.H = H ∧ Rel G c ∧ RS G B c L τ σ ∧ Post G (RVs G) c (fun k d H' => W k d σ H') Q (m τ c.h)
def tIt (m : MT) : TT := fun σ H Q => ∃ c τ L, c.H = H ∧ Rel G c ∧ RS G B c L τ σ ∧ Post G (fun _ (a b : Bool) => a = b) c (fun k d H' => W k d σ H') Q (m τ c.h)
end
def IE (G : Gx) (B : Bx) (W : WX) (X : Cx) (e : Expr) (m : ME) : Prop := PE X e (tI G B W m)
def IA (G : Gx) (B : Bx) (W : WX) (X : Cx) (es : List Expr) (m : MA) : Prop := PA X es (tIa G B W m)
def IT (G : Gx) (B : Bx) (W : WX) (X : Cx) (e : Expr) (m : MT) : Prop := PT X e (tIt G B W m)
def IW (G : Gx) (B : Bx) (W : WX) (X : Cx) (e : Expr) (m : MT) : Prop := PW X e (tIt G B W m)
section
variable {X : Cx} {e : Expr} {es : List Expr}
theorem PE.imp {t t' : TE} (h : PE X e t) (f : ∀ σ H Q, t' σ H Q → t σ H Q) : PE X e t' := ⟨fun pins s σ H Q I q => h.run pins s σ H Q I (f _ _ _ q)⟩
theorem PT.imp {t t' : TT} (h : PT X e t) (f : ∀ σ H Q, t' σ H Q → t σ H Q) : PT X e t' := ⟨fun pins s σ H Q I q => h.run pins s σ H Q I (f _ _ _ q)⟩
theorem PW.imp {t t' : TT} (h : PW X e t) (f : ∀ σ H Q, t' σ H Q → t σ H Q) : PW X e t' := ⟨fun w pins s σ H Q I q => h.run w pins s σ H Q I (f _ _ _ q)⟩
theorem PA.imp {t t' : TA} (h : PA X es t) (f : ∀ σ H Q, t' σ H Q → t σ H Q) : PA X es t' := ⟨fun p pins s σ H Q I q => h.run p pins s σ H Q I (f _ _ _ q)⟩
end
def mVar (i : Nat) : ME := fun τ h => match τ[i]? with
 | some (some v) => if plainV v then .ok v h else .stuck
 | _ => .stuck
def mC (v : AV) : ME := fun _ h => .ok v h
def mUn (k : AV → AH → Option (AV × AH)) (m : ME) : ME := fun τ h => (m τ h).bind fun v h => .of (k v h)
def mBin (k : AV → AV → AH → Option (AV × AH)) (m n : ME) : ME := fun τ h => (m τ h).bind fun v h => (n τ h).bind fun w h => .of (k v w h)
def mNil : MA := fun _ h => .ok [] h
def mCons (m : ME) (r : MA) : MA := fun τ h => (m τ h).bind fun v h => (r τ h).bind fun vs h => .ok (v :: vs) h
def mL (k : List AV → AH → Option (AV × AH)) (m : MA) : ME := fun τ h => (m τ h).bind fun vs h => .of (k vs h)
def boolOf : AV → Option Bool
 | .bl b => some b
 | _ => none
def mB (m : ME) : MT := fun τ h => (m τ h).bind fun v h => .of ((boolOf v).map fun b => (b, h))
def mTAnd (m n : MT) : MT := fun τ h => (m τ h).bind fun b h => if b then n τ h else .ok false h
def mTOr (m n : MT) : MT := fun τ h => (m τ h).bind fun b h => if b then .ok true h else n τ h
def mTNot (m : MT) : MT := fun τ h => (m τ h).bind fun b h => .ok (!b) h
def mIf (c : MT) (m n : ME) : ME := fun τ h => (c τ h).bind fun b h => if b then m τ h else n τ h
def mAndV (m n : ME) : ME := fun τ h => (m τ h).bind fun v h => match v with
 | .bl true => n τ h
 | .bl false => .ok (.bl false) h
 | _ => .stuck
def mNotV (m : ME) : ME := fun τ h => (m τ h).bind fun v h => match v with
 | .bl b => .ok (.bl (!b)) h
 | _ => .stuck
section
variable {G : Gx} {B : Bx} {W : WX} {X : Cx} {c c' : Cfg} {H H' : Hp} {a b e3 : Expr} {es : List Expr} {m n : ME} {ma : MA} {mt nt : MT} {pos : Pos}
theorem fin (r : Rel G c) {W : XK} {v : AV} {u : V} {Q : VK} (x : RV G c v u) (p : Post G (RV G) c W Q (.ok v c.h)) : Q u c.H := p c u (.refl r) rfl x
theorem ie_var (i : Nat) {x : Str} (hN : X.N[i]? = some x := by rfl) (hv : Vis X.env.scope x := by first | exact Or.inl rfl | exact Or.inr (Or.inl rfl) | exact Or.inr (Or.inr rfl)) (hd : (x == ("__debug__" : Str)) = false := by decide)
    (hcd : (x == ("__classdict__" : Str)) = false := by decide) : IE G B W X (.Name x pos) (mVar i) := by
  refine PE.imp (pv i hN hv hd hcd) fun σ H Q ⟨c, τ, L, eH, r, s, p⟩ => ?_
  subst eH
  unfold mVar at p
  split at p
  · rename_i v e
    by_cases q : plainV v = true
    · rw [if_pos q] at p
      obtain ⟨u, eu, x⟩ := s.get e q
      exact ⟨u, eu, fin r x p⟩
    · rw [if_neg q] at p
      exact p.elim
  · exact p.elim
theorem PE.const {e : Expr} {v : AV} {u : V} (h : PE X e (tC u)) (k : ∀ c, RV G c v u) : IE G B W X e (mC v) := PE.imp h fun σ H Q ⟨c, _, _, eH, r, _, p⟩ => by
 subst eH
 exact fin r (k c) p
theorem ie_int {i : Int} {j : Nat} : IE G B W X (.Constant (.int i) j pos) (mC (.int i)) := PE.const pe_int fun _ => .int
theorem ie_bl {i : Bool} {j : Nat} : IE G B W X (.Constant (.bool i) j pos) (mC (.bl i)) := PE.const pe_bl fun _ => .bl
theorem ie_non {j : Nat} : IE G B W X (.Constant .none j pos) (mC .non) := PE.const pe_non fun _ => .non
theorem ie_str {x : Str} {j : Nat} (k : PyData.strOk x = true := by decide +kernel) : IE G B W X (.Constant (.str x) j pos) (mC (.str x)) := PE.const pe_str fun _ => .str k
theorem ie_cls (k : Nat) {x : Str} (hg : Gl X x) (hm : X.mg x = some (.ref (G.ca k))) (hd : (x == ("__debug__" : Str)) = false := by decide) : IE G B W X (.Name x pos) (mC (.cls k)) :=
  PE.const (pe_glob (v := .ref (G.ca k)) hg hm rfl hd) fun _ => .cls
theorem ie_ty {x : Str} {n : String} (hg : Gl X x) (hm : X.mg x = none) (hv : bootBuiltins x = some (.type n)) (hn : x ≠ "__name__" := by decide) (hd : (x == ("__debug__" : Str)) = false := by decide) : IE G B W X (.Name x pos) (mC (.ty n)) :=
  PE.const (pe_bltn (v := .ty n) hg hm hv rfl hn hd) fun _ => .ty
def GV (G : Gx) (v : AV) (u : V) : Prop := ∀ c, RV G c v u
theorem ie_glob {x : Str} {v : AV} {u : V} {w : Value} (hg : Gl X x) (hm : X.mg x = some w) (hr : RelV u w) (hv : GV G v u) (hd : (x == ("__debug__" : Str)) = false := by decide) : IE G B W X (.Name x pos) (mC v) :=
  PE.const (pe_glob hg hm hr hd) hv
def PostO (G : Gx) (c : Cfg) (Q : VK) : Option (AV × AH) → Prop
 | some (v, h') => ∀ c' u, Nxt G c c' → c'.h = h' → RV G c' v u → Q u c'.H
 | none => False
theorem PostO.of {Q : VK} {W : XK} {o : Option (AV × AH)} (p : Post G (RV G) c W Q (.of o)) : PostO G c Q o := by
 rcases o with _ | ⟨v, h'⟩ <;> exact p
def AO1 (G : Gx) (k : AV → AH → Option (AV × AH)) (r : V → Hp → VK → Prop) : Prop := ∀ c v u Q, Rel G c → RV G c v u → PostO G c Q (k v c.h) → r u c.H Q
def AO2 (G : Gx) (k : AV → AV → AH → Option (AV × AH)) (r : R2) : Prop := ∀ c v w u x Q, Rel G c → RV G c v u → RV G c w x → PostO G c Q (k v w c.h) → r u x c.H Q
def AOL (G : Gx) (k : List AV → AH → Option (AV × AH)) (r : List V → Hp → VK → Prop) : Prop := ∀ c v u Q, Rel G c → RVs G c v u → PostO G c Q (k v c.h) → r u c.H Q
theorem two {k : AV → AV → AH → Option (AV × AH)} {r : R2} (hk : AO2 G k r) {σ : SL} {H : Hp} {Q : VK} (t : tI G B W (mBin k m n) σ H Q) : tI G B W m σ H fun x H1 => tI G B W n σ H1 fun y H2 => r x y H2 Q := by
 obtain ⟨c, τ, L, eH, rl, s, p⟩ := t
 refine ⟨c, τ, L, eH, rl, s, (Post.bind (R := RV G) p).imp fun u H1 ⟨c1, v, e1, N1, x1, p1⟩ => ?_⟩
 refine ⟨c1, τ, L, e1.symm, N1.rel, s.nxt N1, (Post.bind (R := RV G) p1).imp fun u2 H2 ⟨c2, w, e2, N2, x2, p2⟩ => ?_⟩
 subst e2
 exact hk c2 v w u u2 Q N2.rel (x1.mono N2.mv) x2 (PostO.of p2)
theorem ie_op {op : Operator} {k : AV → AV → AH → Option (AV × AH)} {r : R2} (ho : OpR X (binaryOp op) r) (hk : AO2 G k r) (ha : IE G B W X a m) (hb : IE G B W X b n) : IE G B W X (.BinOp a op b pos) (mBin k m n) :=
 PE.imp (pe_op ho ha hb) fun _ _ _ t => two hk t
theorem ie_cmp {op : CmpOp} {k : AV → AV → AH → Option (AV × AH)} {r : R2} (ho : OpR X (compareOp op) r) (hk : AO2 G k r) (ha : IE G B W X a m) (hb : IE G B W X b n) (hm : behindInMarks op b = false := by first | exact nomark _ | rfl) :
    IE G B W X (.Compare a [op] [b] pos) (mBin k m n) :=
  PE.imp (pe_cmpR ho ha hb hm) fun _ _ _ t => two hk t
theorem ie_un {op : UnaryOp} {k : AV → AH → Option (AV × AH)} {r : V → Hp → VK → Prop} (ho : UnR X (unaryOp op) r) (hk : AO1 G k r) (ha : IE G B W X a m) : IE G B W X (.UnaryOp op a pos) (mUn k m) := by
 refine PE.imp (pe_un ho ha) fun σ H Q ⟨c, τ, L, eH, rl, s, p⟩ => ?_
 refine ⟨c, τ, L, eH, rl, s, (Post.bind (R := RV G) p).imp fun u H1 ⟨c1, v, e1, N1, x1, p1⟩ => ?_⟩
 subst e1
 exact hk c1 v u Q N1.rel x1 (PostO.of p1)
theorem ie_ix {k : AV → AV → AH → Option (AV × AH)} {r : R2} (ho : IxR X r) (hk : AO2 G k r) (ha : IE G B W X a m) (hb : IE G B W X b n) (hs : PlainIx b := by exact fun _ _ => rfl) : IE G B W X (.Subscript a b pos) (mBin k m n) :=
  PE.imp (pe_ix ho ha hb hs) fun _ _ _ t => two hk t
theorem as_bool {W : XK} {v : AV} {u : V} {Q : Bool → Hp → Prop} (r : Rel G c) (x : RV G c v u) (p : Post G (fun _ (a b : Bool) => a = b) c W Q (.of ((boolOf v).map fun b => (b, c.h)))) : ∃ k, u = .bl k ∧ Q k c.H := by
 cases x with
 | bl => exact ⟨_, rfl, p c _ (.refl r) rfl rfl⟩
 | _ => exact p.elim
theorem it_of (he : IE G B W X a m) (hw : ∀ whole, isTrue a X.env whole = (do let v ← whole; standAt a.pos; holding [v] (truthy v)) := by intro _; rfl) : IT G B W X a (mB m) := by
  refine PT.imp (pt_val he hw) fun σ H Q ⟨c, τ, L, eH, rl, s, p⟩ => ?_
  refine ⟨c, τ, L, eH, rl, s, (Post.bind (R := RV G) p).imp fun u H1 ⟨c1, v, e1, N1, x1, p1⟩ => ?_⟩
  subst e1
  exact as_bool N1.rel x1 p1
theorem it_cmp {op : CmpOp} {k : AV → AV → AH → Option (AV × AH)} {r : R2} (ho : OpR X (compareOp op) r) (hk : AO2 G k r) (ha : IE G B W X a m) (hb : IE G B W X b n) (hm : behindInMarks op b = false := by first | exact nomark _ | rfl) :
    IT G B W X (.Compare a [op] [b] pos) (mB (mBin k m n)) := by
  refine PT.imp (pt_cmpR ho ha hb hm) fun σ H Q ⟨c, τ, L, eH, rl, s, p⟩ => ?_
  refine two hk (Q := fun x H' => ∃ k, x = .bl k ∧ Q k H') ⟨c, τ, L, eH, rl, s, (Post.bind (R := RV G) p).imp fun u H1 ⟨c1, v, e1, N1, x1, p1⟩ => ?_⟩
  subst e1
  exact as_bool N1.rel x1 p1
theorem tbind {γ δ : Type} {R' : RR γ δ} {W : XK} {Q : δ → Hp → Prop} {f : Bool → AH → Res γ} {r : Res Bool} (p : Post G R' c W Q (r.bind f)) :
  Post G (fun _ (a b : Bool) => a = b) c W (fun b H1 => ∃ c1, H1 = c1.H ∧ Nxt G c c1 ∧ Post G R' c1 W Q (f b c1.h)) r :=
 (Post.bind (R := fun _ (a b : Bool) => a = b) p).imp fun u H1 ⟨c1, v, e1, N1, x1, p1⟩ => ⟨c1, e1, N1, by subst x1; exact p1⟩
theorem fint {W : XK} {b : Bool} {Q : Bool → Hp → Prop} (r : Rel G c) (p : Post G (fun _ (a b : Bool) => a = b) c W Q (.ok b c.h)) : Q b c.H := p c b (.refl r) rfl rfl
theorem it_not (ha : IT G B W X a mt) : IT G B W X (.UnaryOp .Not a pos) (mTNot mt) := by
 refine PT.imp (pt_not ha) fun σ H Q ⟨c, τ, L, eH, rl, s, p⟩ => ?_
 refine ⟨c, τ, L, eH, rl, s, (tbind p).imp fun u H1 ⟨c1, e1, N1, p1⟩ => ?_⟩
 subst e1
 exact fint N1.rel p1
theorem IW.it (hx : IW G B W X a mt) : IT G B W X a mt := PW.pt hx
theorem iw_and1 (ha : IT G B W X a mt) : IW G B W X (.BoolOp .And [a] pos) mt := pw_and1 ha
theorem iw_or1 (ha : IT G B W X a mt) : IW G B W X (.BoolOp .Or [a] pos) mt := pw_or1 ha
theorem iw_and (ha : IT G B W X a mt) (hb : IW G B W X (.BoolOp .And (b :: es) pos) nt) : IW G B W X (.BoolOp .And (a :: b :: es) pos) (mTAnd mt nt) := by
 refine PW.imp (pw_and ha hb) fun σ H Q ⟨c, τ, L, eH, rl, s, p⟩ => ?_
 refine ⟨c, τ, L, eH, rl, s, (tbind p).imp fun u H1 ⟨c1, e1, N1, p1⟩ => ?_⟩
 subst e1
 cases u with
 | true => exact ⟨c1, τ, L, rfl, N1.rel, s.nxt N1, p1⟩
 | false => exact fint N1.rel p1
theorem iw_or (ha : IT G B W X a mt) (hb : IW G B W X (.BoolOp .Or (b :: es) pos) nt) : IW G B W X (.BoolOp .Or (a :: b :: es) pos) (mTOr mt nt) := by
 refine PW.imp (pw_or ha hb) fun σ H Q ⟨c, τ, L, eH, rl, s, p⟩ => ?_
 refine ⟨c, τ, L, eH, rl, s, (tbind p).imp fun u H1 ⟨c1, e1, N1, p1⟩ => ?_⟩
 subst e1
 cases u with
 | false => exact ⟨c1, τ, L, rfl, N1.rel, s.nxt N1, p1⟩
 | true => exact fint N1.rel p1
theorem ie_if (hc : IT G B W X e3 mt) (ha : IE G B W X a m) (hb : IE G B W X b n) : IE G B W X (.IfExp e3 a b pos) (mIf mt m n) := by
 refine PE.imp (pe_ifExp hc ha hb) fun σ H Q ⟨c, τ, L, eH, rl, s, p⟩ => ?_
 refine ⟨c, τ, L, eH, rl, s, (tbind p).imp fun u H1 ⟨c1, e1, N1, p1⟩ => ?_⟩
 subst e1
 cases u with
 | true => exact ⟨c1, τ, L, rfl, N1.rel, s.nxt N1, p1⟩
 | false => exact ⟨c1, τ, L, rfl, N1.rel, s.nxt N1, p1⟩
theorem ie_one {op : BoolOp} (ha : IE G B W X a m) : IE G B W X (.BoolOp op [a] pos) m := pe_one ha
theorem ie_and (ha : IE G B W X a m) (hb : IE G B W X (.BoolOp .And (b :: es) pos) n) : IE G B W X (.BoolOp .And (a :: b :: es) pos) (mAndV m n) := by
 refine PE.imp (pe_and ha hb) fun σ H Q ⟨c, τ, L, eH, rl, s, p⟩ => ?_
 refine ⟨c, τ, L, eH, rl, s, (Post.bind (R := RV G) p).imp fun u H1 ⟨c1, v, e1, N1, x1, p1⟩ => ?_⟩
 subst e1
 cases x1 with
 | @bl bb =>
  refine ⟨_, rfl, ?_⟩
  cases bb with
  | true => exact ⟨c1, τ, L, rfl, N1.rel, s.nxt N1, p1⟩
  | false => exact fin N1.rel .bl p1
 | _ => exact p1.elim
theorem ie_not (ha : IE G B W X a m) : IE G B W X (.UnaryOp .Not a pos) (mNotV m) := by
 refine PE.imp (pe_not ha) fun σ H Q ⟨c, τ, L, eH, rl, s, p⟩ => ?_
 refine ⟨c, τ, L, eH, rl, s, (Post.bind (R := RV G) p).imp fun u H1 ⟨c1, v, e1, N1, x1, p1⟩ => ?_⟩
 subst e1
 cases x1 with
 | bl => exact ⟨_, rfl, fin N1.rel .bl p1⟩
 | _ => exact p1.elim
theorem ia_nil : IA G B W X [] mNil := PA.imp pa_nil fun σ H Q ⟨c, τ, L, eH, rl, s, p⟩ => by
 subst eH
 exact p c _ (.refl rl) rfl .nil
theorem ia_cons (ha : IE G B W X a m) (hr : IA G B W X es ma) (hs : starEach (a :: es) X.env = (false, eval a X.env) :: starEach es X.env := by rfl) : IA G B W X (a :: es) (mCons m ma) := by
  refine PA.imp (pa_cons ha hr hs) fun σ H Q ⟨c, τ, L, eH, rl, s, p⟩ => ?_
  refine ⟨c, τ, L, eH, rl, s, (Post.bind (R := RV G) p).imp fun u H1 ⟨c1, v, e1, N1, x1, p1⟩ => ?_⟩
  refine ⟨c1, τ, L, e1.symm, N1.rel, s.nxt N1, (Post.bind (R := RVs G) p1).imp fun us H2 ⟨c2, vs, e2, N2, x2, p2⟩ => ?_⟩
  subst e2
  exact p2 c2 _ (.refl N2.rel) rfl (.cons (x1.mono N2.mv) x2)
theorem many {k : List AV → AH → Option (AV × AH)} {r : List V → Hp → VK → Prop} (hk : AOL G k r) {σ : SL} {H : Hp} {Q : VK} (t : tI G B W (mL k ma) σ H Q) : tIa G B W ma σ H fun xs H1 => r xs H1 Q := by
 obtain ⟨c, τ, L, eH, rl, s, p⟩ := t
 refine ⟨c, τ, L, eH, rl, s, (Post.bind (R := RVs G) p).imp fun u H1 ⟨c1, v, e1, N1, x1, p1⟩ => ?_⟩
 subst e1
 exact hk c1 v u Q N1.rel x1 (PostO.of p1)
def small (n : Nat) : Bool := decide (n ≤ 16777216)
theorem small_le {n : Nat} (e : small n = true) : n ≤ sizeLine := by
 have q := of_decide_eq_true e
 rw [sizeLine_eq]
 exact q
def kTup (vs : List AV) (h : AH) : Option (AV × AH) := if small vs.length then some (.tup vs, h) else none
def kFl (vs : List AV) (h : AH) : Option (AV × AH) := if small vs.length then some (.fl vs, h) else none
def kLst (vs : List AV) (h : AH) : Option (AV × AH) := if small vs.length then some (.ref h.length, h ++ [some (.lst vs)]) else none
theorem ie_tup {k : Nat} (ha : IA G B W X es ma) : IE G B W X (.Tuple es k pos) (mL kTup ma) := by
 refine PE.imp (pe_tup ha) fun σ H Q t => many (r := fun xs H1 Q => xs.length ≤ sizeLine ∧ ∀ p, H1 p = none → Q (.ref p) (upd H1 p (.tup xs))) (fun c v u Q rl x p => ?_) t
 unfold kTup at p
 by_cases e : small v.length = true
 ·rw [if_pos e] at p
  refine ⟨by rw [← x.length]; exact small_le e, fun q hq => ?_⟩
  have N := Nxt.temp (O := .tup u) rl hq
  exact p _ _ N rfl (.tup (.inl upd_same) (rl.frz hq) (x.mono N.mv))
 ·rw [if_neg e] at p
  exact p.elim
theorem ie_fl (ha : IA G B W X es ma) : IE G B W X (.List es pos) (mL kFl ma) := by
 refine PE.imp (pe_lst ha) fun σ H Q t => many (r := fun xs H1 Q => xs.length ≤ sizeLine ∧ ∀ p, H1 p = none → Q (.ref p) (upd H1 p (.lst xs))) (fun c v u Q rl x p => ?_) t
 unfold kFl at p
 by_cases e : small v.length = true
 ·rw [if_pos e] at p
  refine ⟨by rw [← x.length]; exact small_le e, fun q hq => ?_⟩
  have N := Nxt.temp (O := .lst u) rl hq
  exact p _ _ N rfl (.fl (.inl upd_same) (rl.frz hq) (x.mono N.mv))
 ·rw [if_neg e] at p
  exact p.elim
theorem ie_lst (ha : IA G B W X es ma) : IE G B W X (.List es pos) (mL kLst ma) := by
 refine PE.imp (pe_lst ha) fun σ H Q t => many (r := fun xs H1 Q => xs.length ≤ sizeLine ∧ ∀ p, H1 p = none → Q (.ref p) (upd H1 p (.lst xs))) (fun c v u Q rl x p => ?_) t
 unfold kLst at p
 by_cases e : small v.length = true
 ·rw [if_pos e] at p
  refine ⟨by rw [← x.length]; exact small_le e, fun q hq => ?_⟩
  have N := Nxt.alloc (o := .lst v) (H' := upd c.H q (.lst u)) rl hq (fun b o z => by rw [upd_ne (ne_of_none z hq)]; exact z) fun c' M e => ⟨u, by rw [e, upd_same], x.mono M⟩
  have y : RV G { c with rho := ext c.rho c.h.length q, h := c.h ++ [some (.lst v)], H := upd c.H q (.lst u) } (.ref c.h.length) (.ref (ext c.rho c.h.length q c.h.length)) := .ref (by simp)
  rw [ext_same] at y
  exact p _ _ N rfl y
 ·rw [if_neg e] at p
  exact p.elim
theorem ie_callB {x : Str} {p : Pos} {id : String} {r : List V → Hp → VK → Prop} {k : List AV → AH → Option (AV × AH)} (hc : CallR X (.builtin id) r) (hk : AOL G k r) (hg : Gl X x) (hm : X.mg x = none) (hv : bootBuiltins x = some (.builtin id)) (ha : IA G B W X (a :: es) ma) (hn : x ≠ "__name__" := by decide) (hdb : (x == ("__debug__" : Str)) = false := by decide)
    (he : starEach (a :: es) X.env = (false, eval a X.env) :: starEach es X.env := by rfl) (hpl : (backTo pos (starEach es X.env)).any (·.1) = false := by rfl) : IE G B W X (.Call (.Name x p) (a :: es) [] pos) (mL k ma) :=
  PE.imp (pe_callB hc hg hm hv ha hn hdb he hpl) fun _ _ _ t => many hk t
theorem ie_callTy {x : Str} {p : Pos} {T : String} {r : List V → Hp → VK → Prop} {k : List AV → AH → Option (AV × AH)} (hc : CallR X (.type T) r) (hk : AOL G k r) (hg : Gl X x) (hm : X.mg x = none) (hv : bootBuiltins x = some (.type T)) (ha : IA G B W X (a :: es) ma) (hn : x ≠ "__name__" := by decide) (hdb : (x == ("__debug__" : Str)) = false := by decide)
    (he : starEach (a :: es) X.env = (false, eval a X.env) :: starEach es X.env := by rfl) (hpl : (backTo pos (starEach es X.env)).any (·.1) = false := by rfl) : IE G B W X (.Call (.Name x p) (a :: es) [] pos) (mL k ma) :=
  PE.imp (pe_callTy hc hg hm hv ha hn hdb he hpl) fun _ _ _ t => many hk t
end
inductive SRes where
 | nx (τ : AS) (h : AH) | rt (v : AV) (h : AH) | bk (τ : AS) (h : AH) | ct (τ : AS) (h : AH) | exc (x : XC) (fs : List (Nat × AV)) (τ : AS) (h : AH) | stuck
abbrev MS := AS → AH → SRes
def Res.bindS {α : Type} (r : Res α) (τ : AS) (f : α → AH → SRes) : SRes := match r with
 | .ok a h => f a h
 | .exc x fs h => .exc x fs τ h
 | .stuck => .stuck
structure Own (zs : Addr → Prop) (L : List Addr) (c : Cfg) : Prop where
 low : ∀ a, zs a → c.Z a
 dis : ∀ a, a ∈ L → ¬ zs a
 nd : L.Nodup
structure Stp (G : Gx) (zs : Addr → Prop) (L : List Addr) (c : Cfg) (L' : List Addr) (c' : Cfg) : Prop where
 rel : Rel G c'
 mv : Mv c c'
 own : Own zs L' c'
 zz : ∀ a, zs a → c'.H a = c.H a
 new : ∀ a, a ∈ L' → a ∈ L ∨ c.H a = none
section
variable {G : Gx} {B : Bx} {zs : Addr → Prop} {L L1 L2 : List Addr} {c c1 c2 : Cfg}
theorem Stp.refl (r : Rel G c) (o : Own zs L c) : Stp G zs L c L c := ⟨r, .refl, o, fun _ _ => rfl, fun _ h => .inl h⟩
theorem Stp.trans (A : Stp G zs L c L1 c1) (B : Stp G zs L1 c1 L2 c2) : Stp G zs L c L2 c2 :=
 ⟨B.rel, A.mv.trans B.mv, B.own, fun a z => (B.zz a z).trans (A.zz a z), fun a h => by
  rcases B.new a h with h | h
  ·exact A.new a h
  ·cases q : c.H a with
   | none => exact .inr rfl
   | some o =>
    obtain ⟨o', e⟩ := A.mv.there a o q
    rw [h] at e; cases e⟩
theorem Stp.of (N : Nxt G c c1) (o : Own zs L c) : Stp G zs L c L c1 :=
 ⟨N.rel, N.mv, ⟨fun a z => by rw [N.z]; exact o.low a z, o.dis, o.nd⟩, fun a z => N.zz a (o.low a z), fun _ h => .inl h⟩
end
def PostS (G : Gx) (B : Bx) (zs : Addr → Prop) (L : List Addr) (c : Cfg) (W : WX) (D : Ends) : SRes → Prop
 | .nx τ h => ∀ c' L' σ, Stp G zs L c L' c' → c'.h = h → RS G B c' L' τ σ → D.nx σ c'.H
 | .rt v h => ∀ c' L' u, Stp G zs L c L' c' → c'.h = h → RV G c' v u → D.rt u c'.H
 | .bk τ h => ∀ c' L' σ, Stp G zs L c L' c' → c'.h = h → RS G B c' L' τ σ → D.bk σ c'.H
 | .ct τ h => ∀ c' L' σ, Stp G zs L c L' c' → c'.h = h → RS G B c' L' τ σ → D.ct σ c'.H
 | .exc x fs τ h => ∀ c' L' σ k d, Stp G zs L c L' c' → c'.h = h → RX G c' x fs k d → RS G B c' L' τ σ → W k d σ c'.H
 | .stuck => False
section
variable {G : Gx} {B : Bx} {zs : Addr → Prop} {L L1 : List Addr} {c c1 : Cfg} {W : WX} {D : Ends} {τ : AS} {σ : SL} {α β : Type} {R : RR α β}
theorem PostS.trans (S : Stp G zs L c L1 c1) {r : SRes} (p : PostS G B zs L c W D r) : PostS G B zs L1 c1 W D r := by
 cases r with
 | nx τ h => exact fun c' L' σ T => p c' L' σ (S.trans T)
 | rt v h => exact fun c' L' u T => p c' L' u (S.trans T)
 | bk τ h => exact fun c' L' σ T => p c' L' σ (S.trans T)
 | ct τ h => exact fun c' L' σ T => p c' L' σ (S.trans T)
 | exc x fs τ h => exact fun c' L' σ k d T => p c' L' σ k d (S.trans T)
 | stuck => exact p
theorem PostS.bindS {r : Res α} {f : α → AH → SRes} (o : Own zs L c) (s : RS G B c L τ σ) (p : PostS G B zs L c W D (r.bindS τ f)) :
  Post G R c (fun k d H' => W k d σ H') (fun u H1 => ∃ c1 v, c1.H = H1 ∧ Nxt G c c1 ∧ R c1 v u ∧ PostS G B zs L c1 W D (f v c1.h)) r := by
 cases r with
 | ok v h1 => exact fun c2 u N e q => ⟨c2, v, rfl, N, q, by rw [e]; exact PostS.trans (Stp.of N o) p⟩
 | exc x fs h1 => exact fun c2 k d N e q => p c2 L σ k d (Stp.of N o) e q (s.nxt N)
 | stuck => exact p
theorem Own.nxt (o : Own zs L c) (N : Nxt G c c1) : Own zs L c1 := (Stp.of N o).own
end
def tS (G : Gx) (B : Bx) (zs : Addr → Prop) (W : WX) (m : MS) : TS := fun D σ H => ∃ c τ L, c.H = H ∧ Rel G c ∧ Own zs L c ∧ RS G B c L τ σ ∧ PostS G B zs L c W D (m τ c.h)
def IS (G : Gx) (B : Bx) (zs : Addr → Prop) (W : WX) (X : Cx) (st : Stmt) (m : MS) : Prop := PS X st (tS G B zs W m)
def ISs (G : Gx) (B : Bx) (zs : Addr → Prop) (W : WX) (X : Cx) (st : List Stmt) (m : MS) : Prop := PSs X st (tS G B zs W m)
theorem PS.imp {X : Cx} {st : Stmt} {t t' : TS} (h : PS X st t) (f : ∀ D σ H, t' D σ H → t D σ H) : PS X st t' := ⟨fun pins s σ H D I q => h.run pins s σ H D I (f _ _ _ q)⟩
theorem PSs.imp {X : Cx} {st : List Stmt} {t t' : TS} (h : PSs X st t) (f : ∀ D σ H, t' D σ H → t D σ H) : PSs X st t' := ⟨fun pins s σ H D I q => h.run pins s σ H D I (f _ _ _ q)⟩
def sSkip : MS := fun τ h => .nx τ h
def sSeq (m n : MS) : MS := fun τ h => match m τ h with
 | .nx τ h => n τ h
 | r => r
def sSet (i : Nat) (m : ME) : MS := fun τ h => (m τ h).bindS τ fun v h => if i < τ.length then .nx (τ.set i (some v)) h else .stuck
def sExpr (m : ME) : MS := fun τ h => (m τ h).bindS τ fun _ h => .nx τ h
def sRet (m : ME) : MS := fun τ h => (m τ h).bindS τ fun v h => .rt v h
def sIf (c : MT) (m n : MS) : MS := fun τ h => (c τ h).bindS τ fun b h => if b then m τ h else n τ h
abbrev MG := AV → AS → Option AS
def gN (i : Nat) : MG := fun v τ => if i < τ.length then some (τ.set i (some v)) else none
def gsNil : List AV → AS → Option AS := fun vs τ => if vs.isEmpty then some τ else none
def gsCons (g : MG) (gs : List AV → AS → Option AS) : List AV → AS → Option AS := fun vs τ => match vs with
 | [] => none
 | v :: r => (g v τ).bind fun τ' => gs r τ'
def seqOf : AV → Option (List AV)
 | .tup xs => some xs
 | .fl xs => some xs
 | _ => none
def gT (n : Nat) (gs : List AV → AS → Option AS) : MG := fun v τ => (seqOf v).bind fun xs => if xs.length = n then gs xs τ else none
def sAsg (g : MG) (m : ME) : MS := fun τ h => (m τ h).bindS τ fun v h => match g v τ with
 | some τ' => .nx τ' h
 | none => .stuck
def forL (g : MG) (b : MS) : List AV → AS → AH → SRes
  | [], τ, h => .nx τ h
  | v :: r, τ, h => match g v τ with
    | none => .stuck
    | some τ1 => match b τ1 h with
      | .nx τ2 h2 => forL g b r τ2 h2
      | .ct τ2 h2 => forL g b r τ2 h2
      | .bk τ2 h2 => .nx τ2 h2
      | q => q
def sFor (g : MG) (mi : MA) (b : MS) : MS := fun τ h => (mi τ h).bindS τ fun vs h => forL g b vs τ h
section
variable {G : Gx} {B : Bx} {zs : Addr → Prop} {W : WX} {X : Cx} {c c' : Cfg} {H H' : Hp} {a b e : Expr} {es : List Expr} {m n : ME} {ma : MA} {mt nt : MT} {ms ns : MS} {pos : Pos} {st : Stmt} {sts : List Stmt}
theorem iss_nil : ISs G B zs W X [] sSkip := PSs.imp pss_nil fun D σ H ⟨c, τ, L, eH, r, o, s, p⟩ => by
 subst eH
 exact p c L σ (.refl r o) rfl s
theorem iss_one (h1 : IS G B zs W X st ms) : ISs G B zs W X [st] ms := pss_one h1
theorem seq_ok {D : Ends} {L : List Addr} {r : SRes} {n : MS} (p : PostS G B zs L c W D (match r with | .nx τ h => n τ h | r => r)) : PostS G B zs L c W { D with nx := tS G B zs W n D } r := by
 cases r with
 | nx τ h => exact fun c' L' σ S e s => ⟨c', τ, L', rfl, S.rel, S.own, s, by rw [e]; exact PostS.trans S p⟩
 | rt v h => exact p
 | bk τ h => exact p
 | ct τ h => exact p
 | exc x fs τ h => exact p
 | stuck => exact p
theorem iss_cons (h1 : IS G B zs W X st ms) (h2 : ISs G B zs W X sts ns) : ISs G B zs W X (st :: sts) (sSeq ms ns) := PSs.imp (pss_cons h1 h2) fun D σ H ⟨c, τ, L, eH, r, o, s, p⟩ =>
 ⟨c, τ, L, eH, r, o, s, seq_ok p⟩
theorem is_expr (he : IE G B W X e m) (hs : swapsWith e none pos.line X.env = pure false := by rfl) : IS G B zs W X (.Expr e pos) (sExpr m) := PS.imp (ps_expr he hs) fun D σ H ⟨c, τ, L, eH, r, o, s, p⟩ => by
  refine ⟨c, τ, L, eH, r, s, (PostS.bindS (R := RV G) o s p).imp fun u H1 ⟨c1, v, e1, N1, x1, p1⟩ => ?_⟩
  subst e1
  exact p1 c1 L σ (.refl N1.rel (o.nxt N1)) rfl (s.nxt N1)
theorem is_ret (he : IE G B W X e m) : IS G B zs W X (.Return (some e) pos) (sRet m) := PS.imp (ps_ret he) fun D σ H ⟨c, τ, L, eH, r, o, s, p⟩ => by
 refine ⟨c, τ, L, eH, r, s, (PostS.bindS (R := RV G) o s p).imp fun u H1 ⟨c1, v, e1, N1, x1, p1⟩ => ?_⟩
 subst e1
 exact p1 c1 L u (.refl N1.rel (o.nxt N1)) rfl x1
theorem is_if {sa sb : List Stmt} (hc : IT G B W X e mt) (ha : ISs G B zs W X sa ms) (hb : ISs G B zs W X sb ns) : IS G B zs W X (.If e sa sb pos) (sIf mt ms ns) := PS.imp (ps_if hc ha hb) fun D σ H ⟨c, τ, L, eH, r, o, s, p⟩ => by
 refine ⟨c, τ, L, eH, r, s, (PostS.bindS (R := fun _ (a b : Bool) => a = b) o s p).imp fun u H1 ⟨c1, v, e1, N1, x1, p1⟩ => ?_⟩
 subst e1
 subst x1
 cases v with
 | true => exact ⟨c1, τ, L, rfl, N1.rel, o.nxt N1, s.nxt N1, p1⟩
 | false => exact ⟨c1, τ, L, rfl, N1.rel, o.nxt N1, s.nxt N1, p1⟩
theorem RS.put {L : List Addr} {τ : AS} {σ : SL} {i : Nat} {v : AV} {u : V} (r : Rel G c) (o : Own zs L c) (s : RS G B c L τ σ) (hi : i < τ.length) (x : RV G c v u) :
  ∃ L', Stp G zs L c L' c ∧ RS G B c L' (τ.set i (some v)) (σ.set i (some u)) := by
 obtain ⟨P, S, l, t, e1, e2, y, f⟩ := s.focus (i := i) (o := τ[i]) (List.getElem?_eq_getElem hi)
 have q := f c [] (some v) (some u) .refl (fun a h => ⟨s.z a (by rw [e1]; simp at h ⊢; rcases h with h | h <;> simp [h]), rfl⟩) (.val x)
 have sub : ∀ a, a ∈ P ++ [] ++ S → a ∈ L := fun a h => by rw [e1]; simp at h ⊢; rcases h with h | h <;> simp [h]
 refine ⟨_, ⟨r, .refl, ⟨o.low, fun a h => o.dis a (sub a h), ?_⟩, fun _ _ => rfl, fun a h => .inl (sub a h)⟩, q⟩
 have nd := o.nd
 rw [e1] at nd
 simp only [List.append_nil]
 exact nd.sublist (List.Sublist.append (List.sublist_append_left P l) (List.Sublist.refl S))
theorem is_set (i : Nat) {x : Str} {pos' : Pos} (hN : X.N.Nodup) (he : IE G B W X e m) (hi : X.N[i]? = some x := by rfl) (hx : Loc X.env.scope x := by first | exact Or.inl rfl | exact Or.inr rfl) (hs : swapsWith e (some (.Name x pos')) pos.line X.env = pure false := by rfl) (hf : X.fn x = true ∨ X.env.scope.names.lookup x = some .local := by first | exact .inl rfl | exact .inr rfl | assumption) :
    IS G B zs W X (.Assign [.Name x pos'] e pos) (sSet i m) := PS.imp (ps_set hN hi hx he hs hf) fun D σ H ⟨c, τ, L, eH, r, o, s, p⟩ => by
  refine ⟨c, τ, L, eH, r, s, (PostS.bindS (R := RV G) o s p).imp fun u H1 ⟨c1, v, e1, N1, x1, p1⟩ => ?_⟩
  subst e1
  by_cases hl : i < τ.length
  · rw [if_pos hl] at p1
    obtain ⟨L', S, s'⟩ := RS.put N1.rel (o.nxt N1) (s.nxt N1) hl x1
    exact p1 c1 L' _ S rfl s'
  · rw [if_neg hl] at p1
    exact p1.elim
def tG (G : Gx) (B : Bx) (zs : Addr → Prop) (g : MG) : TG := fun u σ H Q => ∃ c τ L v τ', c.H = H ∧ Rel G c ∧ Own zs L c ∧ RS G B c L τ σ ∧ RV G c v u ∧ g v τ = some τ' ∧ ∀ c' L' σ', Stp G zs L c L' c' → c'.h = c.h → RS G B c' L' τ' σ' → Q σ' c'.H
def tGs (G : Gx) (B : Bx) (zs : Addr → Prop) (g : List AV → AS → Option AS) : TGs := fun us σ H Q => ∃ c τ L vs τ', c.H = H ∧ Rel G c ∧ Own zs L c ∧ RS G B c L τ σ ∧ RVs G c vs us ∧ g vs τ = some τ' ∧ ∀ c' L' σ', Stp G zs L c L' c' → c'.h = c.h → RS G B c' L' τ' σ' → Q σ' c'.H
theorem PG.imp {t t' : TG} (h : PG X e t) (f : ∀ u σ H Q, t' u σ H Q → t u σ H Q) : PG X e t' := ⟨fun pins s σ H v u Q I r q => h.run pins s σ H v u Q I r (f _ _ _ _ q)⟩
theorem PGs.imp {t t' : TGs} (h : PGs X es t) (f : ∀ u σ H Q, t' u σ H Q → t u σ H Q) : PGs X es t' := ⟨fun pins s σ H v u Q I r q => h.run pins s σ H v u Q I r (f _ _ _ _ q)⟩
theorem PG.or {t t' : TG} (h : PG X e t) (h' : PG X e t') : PG X e (fun u σ H Q => t u σ H Q ∨ t' u σ H Q) := ⟨fun pins s σ H v u Q I r q => q.elim (h.run pins s σ H v u Q I r) (h'.run pins s σ H v u Q I r)⟩
def IG (G : Gx) (B : Bx) (zs : Addr → Prop) (X : Cx) (e : Expr) (g : MG) : Prop := PG X e (tG G B zs g)
def IGs (G : Gx) (B : Bx) (zs : Addr → Prop) (X : Cx) (es : List Expr) (g : List AV → AS → Option AS) : Prop := PGs X es (tGs G B zs g)
theorem ig_name (i : Nat) {x : Str} (hN : X.N.Nodup) (hi : X.N[i]? = some x := by rfl) (hx : Loc X.env.scope x := by first | exact Or.inl rfl | exact Or.inr rfl) (hf : X.fn x = true ∨ X.env.scope.names.lookup x = some .local := by first | exact .inl rfl | exact .inr rfl | assumption) : IG G B zs X (.Name x pos) (gN i) :=
  PG.imp (pg_name hN hi hx hf) fun u σ H Q ⟨c, τ, L, v, τ', eH, r, o, s, x, e, k⟩ => by
  unfold gN at e
  by_cases hl : i < τ.length
  · rw [if_pos hl] at e
    cases e
    obtain ⟨L', S, s'⟩ := RS.put r o s hl x
    subst eH
    exact k c L' _ S rfl s'
  · rw [if_neg hl] at e
    cases e
theorem igs_nil : IGs G B zs X [] gsNil := PGs.imp pgs_nil fun us σ H Q ⟨c, τ, L, vs, τ', eH, r, o, s, x, e, k⟩ => by
 cases x with
 | nil =>
  cases e
  subst eH
  exact ⟨rfl, k c L σ (.refl r o) rfl s⟩
 | cons _ _ => cases e
theorem igs_cons {g : MG} {gs : List AV → AS → Option AS} (h1 : IG G B zs X a g) (h2 : IGs G B zs X es gs) (hs : (assignEach (a :: es) X.env).map (·.2) = assign a X.env :: (assignEach es X.env).map (·.2) := by rfl) : IGs G B zs X (a :: es) (gsCons g gs) :=
  PGs.imp (pgs_cons h1 h2 hs) fun us σ H Q ⟨c, τ, L, vs, τ', eH, r, o, s, x, e, k⟩ => by
  cases x with
  | nil => cases e
  | @cons v vr u ur x xr =>
    unfold gsCons at e
    simp only at e
    cases q : g v τ with
    | none => rw [q] at e; cases e
    | some τ1 =>
      rw [q] at e
      exact ⟨u, ur, rfl, c, τ, L, v, τ1, eH, r, o, s, x, q, fun c1 L1 σ1 S1 e1 s1 => ⟨c1, τ1, L1, vr, τ', rfl, S1.rel, S1.own, s1, xr.mono S1.mv, e, fun c2 L2 σ2 S2 e2 s2 => k c2 L2 σ2 (S1.trans S2) (e2.trans e1) s2⟩⟩
theorem ig_tup {n k : Nat} {gs : List AV → AS → Option AS} (hK : X.K = G.K) (hc : X.calm = true) (h : IGs G B zs X es gs) (hn : (assignEach es X.env).length = n := by rfl) (hst : (assignEach es X.env).findIdx? (·.1) = none := by rfl) : IG G B zs X (.Tuple es k pos) (gT n gs) := by
  refine PG.imp (PG.or (pg_tup hc h hn hst) (pg_lst hc h hn hst)) fun u σ H Q ⟨c, τ, L, v, τ', eH, r, o, s, x, e, k⟩ => ?_
  rw [hK]
  unfold gT at e
  have go : ∀ {xs : List AV} {us : List V}, RVs G c xs us → (if xs.length = n then gs xs τ else none) = some τ' → us.length = n ∧ tGs G B zs gs us σ H Q := fun {xs us} y e => by
    by_cases hl : xs.length = n
    · rw [if_pos hl] at e
      exact ⟨by rw [← y.length]; exact hl, c, τ, L, xs, τ', eH, r, o, s, y, e, k⟩
    · rw [if_neg hl] at e
      cases e
  subst eH
  cases x with
  | tup rd f y => exact .inl ⟨_, _, rfl, .inl rd, go y e⟩
  | tupK kk y => exact .inl ⟨_, _, rfl, .inr kk, go y e⟩
  | fl rd f y => exact .inr ⟨_, _, rfl, .inl rd, go y e⟩
  | flK kk y => exact .inr ⟨_, _, rfl, .inr kk, go y e⟩
  | _ => cases e
theorem is_asg {g : MG} {tg : Expr} (he : IE G B W X e m) (hg : IG G B zs X tg g) (hs : swapsWithSole [tg] e pos.line X.env = pure false := by rfl) (hw : swappedStores [tg] e X.env = pure none := by rfl)
    (h1 : (assignEach [tg] X.env).map (·.2) = [assign tg X.env] := by rfl) : IS G B zs W X (.Assign [tg] e pos) (sAsg g m) := PS.imp (ps_asg he hg hs hw h1) fun D σ H ⟨c, τ, L, eH, r, o, s, p⟩ => by
  refine ⟨c, τ, L, eH, r, s, (PostS.bindS (R := RV G) o s p).imp fun u H1 ⟨c1, v, e1, N1, x1, p1⟩ => ?_⟩
  subst e1
  cases q : g v τ with
  | none => rw [q] at p1; exact p1.elim
  | some τ1 =>
    rw [q] at p1
    exact ⟨c1, τ, L, v, τ1, rfl, N1.rel, o.nxt N1, s.nxt N1, x1, q, fun c' L' σ' S eh s' => p1 c' L' σ' S eh s'⟩
structure Goes (G : Gx) (c : Cfg) (J : It) (vs : List AV) : Prop where
 ex : ∃ Gd Y, Walk J vs.length Gd Y ∧ (∀ c', Mv c c' → Gd c'.H) ∧ ∀ c' i x H'' v, Mv c c' → Rel G c' → vs[i]? = some v → Y i c'.H x H'' → Nxt G c' { c' with H := H'' } ∧ RV G { c' with H := H'' } v x
def tIi (G : Gx) (B : Bx) (W : WX) (m : MA) : TI := fun σ H R => ∃ c τ L, c.H = H ∧ Rel G c ∧ RS G B c L τ σ ∧ Post G (fun c' (vs : List AV) (J : It) => Goes G c' J vs) c (fun k d H' => W k d σ H') R (m τ c.h)
def II (G : Gx) (B : Bx) (W : WX) (X : Cx) (tg iter : Expr) (m : MA) : Prop := PI X tg iter (tIi G B W m)
theorem PI.imp {tg iter : Expr} {t t' : TI} (h : PI X tg iter t) (f : ∀ σ H R, t' σ H R → t σ H R) : PI X tg iter t' := ⟨fun pins s σ H R I q => h.run pins s σ H R I (f _ _ _ q)⟩
theorem is_for {g : MG} {tg iter : Expr} {body : List Stmt} (hp : PassesOwn (model X.prog X.w) X.A X.env X.xe) (hc : X.calm = true) (hi : II G B W X tg iter ma) (hg : IG G B zs X tg g) (hb : ISs G B zs W X body ms)
  (hs : ∀ x, foldedSetIterable iter X.env x = pure x := by intro _; rfl) : IS G B zs W X (.For tg iter body [] pos) (sFor g ma ms) := PS.imp (ps_for hp hc hi hg hb hs) fun D σ H ⟨c, τ, L, eH, r, o, s, p⟩ => by
 refine ⟨c, τ, L, eH, r, s, (PostS.bindS (R := fun c' (vs : List AV) (J : It) => Goes G c' J vs) o s p).imp fun J H1 ⟨c1, vs, e1, N1, ⟨Gd, Y, w, hG, hY⟩, p1⟩ => ?_⟩
 subst e1
 refine for_it w (fun i σ H => ∃ c2 τ L2, c2.H = H ∧ Stp G zs L c1 L2 c2 ∧ RS G B c2 L2 τ σ ∧ PostS G B zs L2 c2 W D (forL g ms (vs.drop i) τ c2.h)) ⟨c1, τ, L, rfl, .refl N1.rel (o.nxt N1), s.nxt N1, p1⟩ ?_ ?_ ?_
 ·rintro i σ H _ ⟨c2, τ, L2, rfl, S, _⟩
  exact hG c2 S.mv
 ·rintro i x σ H H' hi ⟨c2, τ, L2, rfl, S, s2, p2⟩ y
  obtain ⟨N3, x3⟩ := hY c2 i x H' vs[i] S.mv S.rel (by simp [hi]) y
  rw [List.drop_eq_getElem_cons hi] at p2
  unfold forL at p2
  cases q : g vs[i] τ with
  | none => rw [q] at p2; exact p2.elim
  | some τ1 =>
   rw [q] at p2
   have T := Stp.of N3 S.own
   refine ⟨{ c2 with H := H' }, τ, L2, vs[i], τ1, rfl, N3.rel, T.own, s2.nxt N3, x3, q, fun c3 L3 σ3 S3 e3 s3 => ⟨c3, τ1, L3, rfl, S3.rel, S3.own, s3, ?_⟩⟩
   have p3 := PostS.trans (T.trans S3) p2
   have e3' : c3.h = c2.h := e3
   have nxt : ∀ {c4 : Cfg} {L4 : List Addr} {σ4 : SL} {τ4 : AS}, Stp G zs L3 c3 L4 c4 → RS G B c4 L4 τ4 σ4 → PostS G B zs L3 c3 W D (forL g ms (vs.drop (i + 1)) τ4 c4.h) →
     ∃ c2 τ L2, c2.H = c4.H ∧ Stp G zs L c1 L2 c2 ∧ RS G B c2 L2 τ σ4 ∧ PostS G B zs L2 c2 W D (forL g ms (vs.drop (i + 1)) τ c2.h) := fun {c4 L4 σ4 τ4} S4 s4 p4 =>
    ⟨c4, τ4, L4, rfl, ((S.trans T).trans S3).trans S4, s4, PostS.trans S4 p4⟩
   revert p3
   rw [e3']
   show PostS G B zs L3 c3 W D (match ms τ1 c2.h with | .nx τ2 h2 => forL g ms (vs.drop (i + 1)) τ2 h2 | .ct τ2 h2 => forL g ms (vs.drop (i + 1)) τ2 h2 | .bk τ2 h2 => .nx τ2 h2 | q => q) → PostS G B zs L3 c3 W _ (ms τ1 c2.h)
   cases ms τ1 c2.h with
   | nx τ4 h4 => exact fun p3 c4 L4 σ4 S4 e4 s4 => nxt S4 s4 (by rw [e4]; exact p3)
   | ct τ4 h4 => exact fun p3 c4 L4 σ4 S4 e4 s4 => nxt S4 s4 (by rw [e4]; exact p3)
   | bk τ4 h4 => exact fun p3 => p3
   | rt v h4 => exact fun p3 => p3
   | exc x fs τ4 h4 => exact fun p3 => p3
   | stuck => exact fun p3 => p3
 ·rintro σ H ⟨c2, τ, L2, rfl, S, s2, p2⟩
  rw [List.drop_length] at p2
  exact p2 c2 L2 σ (.refl S.rel S.own) rfl s2
end
abbrev FN := List AV → AH → Res AV
def runF (N : Nat) (b : MS) : FN := fun vs h => match b (vs.map some ++ List.replicate (N - vs.length) none) h with
 | .nx _ h' => .ok .non h'
 | .rt v h' => .ok v h'
 | .exc x fs _ h' => .exc x fs h'
 | _ => .stuck
def spF (G : Gx) (n : Nat) (m : FN) : Sp := fun us H Q E => ∃ c vs, c.H = H ∧ Rel G c ∧ RVs G c vs us ∧ vs.length = n ∧ Post G (RV G) c E Q (m vs c.h)
section
variable {G : Gx} {B : Bx} {zs : Addr → Prop} {L L' : List Addr} {c c' : Cfg} {α β : Type} {R : RR α β}
theorem RS.start {vs : List AV} {us : List V} (x : RVs G c vs us) (k : Nat) : RS G B c [] (vs.map some ++ List.replicate k none) (us.map some ++ List.replicate k none) := by
 induction us generalizing vs with
 | nil =>
  cases x
  simp only [List.map_nil, List.nil_append]
  induction k with
  | zero => exact .nil
  | succ k ih => exact RS.cons (l := []) .skip ih
 | cons u us ih =>
  cases x with
  | cons x xr => exact RS.cons (l := []) (.val x) (ih xr)
theorem Stp.leave (S : Stp G c.Z L c L' c') : Nxt G c { c' with Z := c.Z } ∧ Mv c' { c' with Z := c.Z } :=
 ⟨⟨S.rel.fewer S.own.low, S.mv.trans (Mv.fewer S.own.low), rfl, fun a z => S.zz a z⟩, Mv.fewer S.own.low⟩
theorem post_of {E : XK} {Q : VK} {N : Nat} {b : MS} {vs : List AV} {h : AH} (p : Post G (RV G) c E Q (runF N b vs h)) :
  PostS G B c.Z [] c (fun k d _ H' => E k d H') { nx := fun _ H' => Q .non H', rt := Q } (b (vs.map some ++ List.replicate (N - vs.length) none) h) := by
 unfold runF at p
 revert p
 cases b (vs.map some ++ List.replicate (N - vs.length) none) h with
 | nx τ h1 => exact fun p c' L' σ S e _ => p { c' with Z := c.Z } .non S.leave.1 e .non
 | rt v h1 => exact fun p c' L' u S e x => p { c' with Z := c.Z } u S.leave.1 e (x.mono S.leave.2)
 | exc x fs τ h1 => exact fun p c' L' σ k d S e x _ => p { c' with Z := c.Z } k d S.leave.1 e (x.mono S.leave.2)
 | bk τ h1 => exact fun p => p.elim
 | ct τ h1 => exact fun p => p.elim
 | stuck => exact fun p => p.elim
end
section
variable {P : Program} {w : World} {K : PySem.W.Frag} {mg : Str → Option Value} {base : Heap}
theorem ok_fn {G : Gx} {B : Bx} {x qual : Str} {st : Stmt} {f : Addr} {fd : FuncData} {N ps : List Str} {k : Nat} {b : MS} (F : Fun K x qual st f fd) (S : FnScope N ps (defScope st))
    (hb : ∀ (cdv : Value) (A : Around) (outer : List Env) (s : Shared) (H : Hp) (E : XK) (zs : Addr → Prop), Room k (A.deeper (envOfC qual (defScope st) s.heap.objs.size f cdv)) →
      Takes (cxOf (L2.CX P w) P w K mg base N qual (defScope st) f cdv A outer s H E) (fun k d _ H' => E k d H') →
      ISs G B zs (fun k d _ H' => E k d H') (cxOf (L2.CX P w) P w K mg base N qual (defScope st) f cdv A outer s H E) (defBody st) b) :
    FnOk P w K mg base (L2.CX P w) (k + 1) f fd ps (spF G ps.length (runF N.length b)) := by
  refine F.okX S (fun vs H Q E h => ?_) (fun cdv A outer s H vs Q E hr h => ?_)
  · obtain ⟨c, ws, _, _, x, e, _⟩ := h
    rw [← x.length, e]
  · obtain ⟨c, ws, eH, r, x, e, p⟩ := h
    refine ⟨_, hb cdv A outer s H E c.Z hr (takes_of rfl rfl rfl rfl), ?_⟩
    refine ⟨c, _, [], eH, r, ⟨fun _ z => z, fun a h => absurd h (by simp), List.nodup_nil⟩, ?_, post_of p⟩
    unfold L2.start
    rw [x.length]
    exact RS.start x _
theorem FnOk.eqv {G : Gx} {f : Addr} {fd : FuncData} {ps : List Str} {k n : Nat} {m m' : FN} (F : FnOk P w K mg base (L2.CX P w) k f fd ps (spF G n m)) (e : ∀ vs h, vs.length = n → m vs h = m' vs h) :
  FnOk P w K mg base (L2.CX P w) k f fd ps (spF G n m') := F.imp fun vs H Q E ⟨c, ws, eH, r, x, l, p⟩ => ⟨c, ws, eH, r, x, l, by rw [e ws c.h l]; exact p⟩
end
def mCall (f : FN) (ma : MA) : ME := fun τ h => (ma τ h).bind fun vs h => f vs h
def fldsOf (v : AV) (h : AH) : Option (Nat × List (Nat × AV)) := match v with
  | .obj k fs => some (k, fs)
  | .ref n => match h[n]? with
    | some (some (.ins k fs)) => some (k, fs)
    | _ => none
  | _ => none
def mMet (k m : Nat) (f : FN) (o : ME) (ma : MA) : ME := fun τ h => (o τ h).bind fun v h => match fldsOf v h with
 | some (k', fs) => if k' = k ∧ (fs.lookup m).isNone then (ma τ h).bind fun vs h => f (v :: vs) h else .stuck
 | none => .stuck
section
variable {G : Gx} {B : Bx} {W : WX} {X : Cx} {c c' : Cfg} {H H' : Hp} {a b e o : Expr} {es : List Expr} {m n : ME} {ma : MA} {pos p apos : Pos} {k : Nat} {f C : Addr} {fd : FuncData} {ps : List Str} {fn : FN} {N : Nat} {ds : List Value} {dvs : List V} {dws : List AV} {x : Str}
theorem RVs.append {xs ys : List AV} {us ws : List V} : ∀ (r : RVs G c xs us) (q : RVs G c ys ws), RVs G c (xs ++ ys) (us ++ ws)
 | .nil, q => q
 | .cons r t, q => .cons r (t.append q)
def GVs (G : Gx) (vs : List AV) (us : List V) : Prop := ∀ c, RVs G c vs us
theorem gvs_nil : GVs G [] [] := fun _ => .nil
theorem gvs_cons {v : AV} {u : V} {vs : List AV} {us : List V} (h : GV G v u) (t : GVs G vs us) : GVs G (v :: vs) (u :: us) := fun c => .cons (h c) (t c)
theorem sp_of {vs : List AV} {us : List V} {E : XK} {Q : VK} (r : Rel G c) (x : RVs G c vs us) (l : vs.length = N) (p : Post G (RV G) c E Q (fn vs c.h)) : spF G N fn us c.H Q E := ⟨c, vs, rfl, r, x, l, p⟩
def chk (N : Nat) (f : FN) : FN := fun vs h => if vs.length = N then f vs h else .stuck
theorem ie_call (F : FnOk X.prog X.w X.K X.mg X.base (L2.CX X.prog X.w) k f fd ps (spF G N fn)) (hr : Room k X.A) (tk : Takes X W) (hm : X.mg x = some (.ref f)) (hk : PySem.W.keepIn X.K (.ref f) = true) (hb : Binds X.K fd ps ds) (hd : Vals dvs ds) (gd : GVs G dws dvs)
  (ha : IA G B W X (e :: es) ma) (hg : Gl X x := by rfl) (hdb : (x == ("__debug__" : Str)) = false := by decide) (he : starEach (e :: es) X.env = (false, eval e X.env) :: starEach es X.env := by rfl) (hpl : (backTo pos (starEach es X.env)).any (·.1) = false := by rfl) :
  IE G B W X (.Call (.Name x p) (e :: es) [] pos) (mCall (fun vs h => chk N fn (vs ++ dws) h) ma) :=
 PE.imp (pe_callSD (E := fun σ k d H => W k d σ H) F hr hg hm hk hb hd (fun σ => passAt tk σ) ha hdb he hpl) fun σ H Q ⟨c, τ, L, eH, rl, s, q⟩ => by
 refine ⟨c, τ, L, eH, rl, s, (Post.bind (R := RVs G) q).imp fun us H1 ⟨c1, vs, e1, N1, x1, p1⟩ => ?_⟩
 subst e1
 have p1 : Post G (RV G) c1 (fun k d H' => W k d σ H') Q (chk N fn (vs ++ dws) c1.h) := p1
 unfold chk at p1
 by_cases hl : (vs ++ dws).length = N
 ·rw [if_pos hl] at p1
  exact sp_of N1.rel (x1.append (gd c1)) hl p1
 ·rw [if_neg hl] at p1
  exact p1.elim
theorem RVf.get {fs : List (Nat × AV)} {uf : List (Str × V)} {i : Nat} : ∀ (r : RVf G c fs uf) {v : AV}, fs.lookup i = some v → ∃ u, uf.lookup (G.nm i) = some u ∧ RV G c v u
 | .nil, v, e => by simp at e
 | @RVf.cons _ _ f x xs u us r t, v, e => by
  rw [List.lookup_cons] at e ⊢
  by_cases h : i = f
  ·subst h
   simp at e ⊢
   subst e
   exact r
  ·have h1 : (i == f) = false := by simpa using h
   have h2 : (G.nm i == G.nm f) = false := beq_eq_false_iff_ne.mpr fun q => h (G.inj _ _ q)
   rw [h1] at e
   rw [h2]
   exact t.get e
theorem RVf.none {fs : List (Nat × AV)} {uf : List (Str × V)} {i : Nat} : ∀ (r : RVf G c fs uf), fs.lookup i = none → uf.lookup (G.nm i) = none
 | .nil, _ => rfl
 | @RVf.cons _ _ f x xs u us r t, e => by
  rw [List.lookup_cons] at e ⊢
  by_cases h : i = f
  ·subst h
   simp at e
  ·have h1 : (i == f) = false := by simpa using h
   have h2 : (G.nm i == G.nm f) = false := beq_eq_false_iff_ne.mpr fun q => h (G.inj _ _ q)
   rw [h1] at e
   rw [h2]
   exact t.none e
def aput (i : Nat) (v : AV) : List (Nat × AV) → List (Nat × AV)
 | [] => [(i, v)]
 | (j, x) :: r => if j = i then (j, v) :: r else (j, x) :: aput i v r
theorem RVf.put {fs : List (Nat × AV)} {uf : List (Str × V)} {i : Nat} {v : AV} {u : V} (y : RV G c v u) : ∀ (r : RVf G c fs uf), RVf G c (aput i v fs) (putF (G.nm i) u uf)
 | .nil => .cons y .nil
 | @RVf.cons _ _ f x xs u2 us r t => by
  unfold aput putF
  by_cases h : f = i
  ·subst h
   rw [if_pos rfl, if_pos rfl]
   exact .cons y t
  ·rw [if_neg h, if_neg fun q => h (G.inj _ _ q)]
   exact .cons r (t.put y)
theorem inst_at {v : AV} {u : V} {k : Nat} {fs : List (Nat × AV)} (r : Rel G c) (x : RV G c v u) (e : fldsOf v c.h = some (k, fs)) : ∃ p dx uf, u = .ref p ∧ c.H p = some (.ins (G.ca k) dx uf) ∧ RVf G c fs uf := by
 cases x with
 | obj e1 f1 x1 =>
  unfold fldsOf at e
  cases e
  exact ⟨_, _, _, rfl, e1, x1⟩
 | @ref n hn =>
  unfold fldsOf at e
  simp only at e
  split at e
  ·rename_i k' fs' q
   cases e
   obtain ⟨dx, uf, q1, q2⟩ := r.obj n _ q
   exact ⟨_, dx, uf, rfl, q1, q2⟩
  ·cases e
 | _ => cases e
def mFld (ks : List Nat) (f : Nat) (m : ME) : ME := fun τ h => (m τ h).bind fun v h => match fldsOf v h with
 | some (k, fs) => if ks.contains k then (match fs.lookup f with | some w => .ok w h | none => .stuck) else .stuck
 | none => .stuck
structure FldOk (G : Gx) (K : PySem.W.Frag) (f : Nat) (k : Nat) : Prop where
 cl : Cls K (G.ca k)
 no : NoAttr K (G.ca k) (G.nm f)
theorem ie_fld {ks : List Nat} {f : Nat} {fx : Str} (he : IE G B W X e m) (hf : fx = G.nm f) (hks : ∀ k, k ∈ ks → FldOk G X.K f k) (hb : attributeBase e fx X.env (eval e X.env) = eval e X.env := by rfl) : IE G B W X (.Attribute e fx pos) (mFld ks f m) := by
  subst hf
  refine PE.imp (pe_fld he hb) fun σ H Q ⟨c, τ, L, eH, rl, s, q⟩ => ?_
  refine ⟨c, τ, L, eH, rl, s, (Post.bind (R := RV G) q).imp fun u H1 ⟨c1, v, e1, N1, x1, p1⟩ => ?_⟩
  subst e1
  cases q1 : fldsOf v c1.h with
  | none => rw [q1] at p1; exact p1.elim
  | some kf =>
    obtain ⟨k, fs⟩ := kf
    rw [q1] at p1
    simp only at p1
    by_cases hk : ks.contains k = true
    · rw [if_pos hk] at p1
      have hk' : k ∈ ks := by simpa using hk
      obtain ⟨pp, dx, uf, rfl, ep, xf⟩ := inst_at N1.rel x1 q1
      cases q2 : fs.lookup f with
      | none => rw [q2] at p1; exact p1.elim
      | some w =>
        rw [q2] at p1
        obtain ⟨u2, e2, x2⟩ := xf.get q2
        exact ⟨pp, _, dx, uf, u2, rfl, ep, (hks k hk').cl, (hks k hk').no, e2, fin N1.rel x2 p1⟩
    · rw [if_neg hk] at p1
      exact p1.elim
theorem ie_meth {kc mi : Nat} {mx : Str} {pl : Sem Bool} (he : IE G B W X o m) (hmx : mx = G.nm mi) (cl : Cls X.K (G.ca kc)) (hm : Meth X.K (G.ca kc) mx f) (F : FnOk X.prog X.w X.K X.mg X.base (L2.CX X.prog X.w) k f fd ps (spF G N fn)) (hr : Room k X.A) (tk : Takes X W) (hb : Binds X.K fd ps ds) (hd : Vals dvs ds) (gd : GVs G dws dvs)
    (ha : IA G B W X (e :: es) ma)
    (hst : starEach (e :: es) X.env = (false, eval e X.env) :: starEach es X.env := by rfl) (hpl : (backTo pos (starEach es X.env)).any (·.1) = false := by rfl)
    (ht : eval (.Call (.Attribute o mx apos) (e :: es) [] pos) X.env = (do
      let ov ← eval o X.env
      standAt apos.atName
      let (f, first) ← holding [ov] (getMethod ov mx pl)
      callWith pos f first (backTo pos (starEach (e :: es) X.env)) (backToKw pos (keywordEach [] X.env))) := by rfl) :
    IE G B W X (.Call (.Attribute o mx apos) (e :: es) [] pos) (mMet kc mi (fun vs h => chk N fn (vs ++ dws) h) m ma) := by
  subst hmx
  refine ⟨fun pins s σ H Q I ⟨c, τ, L, eH, rl, s', q⟩ => ?_⟩
  refine PySem.W.methodCall_KW (pl := pl) (thn (he.run pins s σ H _ I ⟨c, τ, L, eH, rl, s', Post.bind (R := RV G) q⟩) fun u s1 ⟨y, H1, I1, ry, c1, v, e1, N1, x1, p1⟩ => ?_) ht
  subst e1
  cases q1 : fldsOf v c1.h with
  | none => rw [q1] at p1; exact p1.elim
  | some kf =>
    obtain ⟨k', fs⟩ := kf
    rw [q1] at p1
    simp only at p1
    by_cases hk : k' = kc ∧ (fs.lookup mi).isNone = true
    · rw [if_pos hk] at p1
      obtain ⟨hk1, hk2⟩ := hk
      subst hk1
      obtain ⟨pp, dx, uf, rfl, ep, xf⟩ := inst_at N1.rel x1 q1
      obtain rfl : u = Value.ref pp := ry
      refine getmeth_ok I1 ep cl hm (xf.none (by simpa using hk2)) ?_
      refine PySem.W.callWith_K (first := [.ref pp]) (h₀ := X.base) I.ok.mod.kin hm.kp (thn (ha.run pos pins s1 σ c1.H _ I1 ⟨c1, τ, L, rfl, N1.rel, s'.nxt N1, Post.bind (R := RVs G) p1⟩) fun us s2 ⟨ws, H2, I2, r2, c2, vs, e2, N2, x2, p2⟩ => ⟨I2.kIn, ?_⟩) hst hpl
      subst e2
      unfold chk at p2
      by_cases hl : (v :: vs ++ dws).length = N
      · rw [if_pos hl] at p2
        exact run_fnSD (us := .ref pp :: us) (vs := .ref pp :: ws) (E := fun σ k d H => W k d σ H) F hr hb hd (passAt tk σ) I2 (.cons rfl r2) (sp_of N2.rel (RVs.append (RVs.cons (x1.mono N2.mv) x2) (gd c2)) hl p2)
      · rw [if_neg hl] at p2
        exact p2.elim
    · rw [if_neg hk] at p1
      exact p1.elim
theorem ie_meth0 {kc mi : Nat} {mx : Str} {pl : Sem Bool} (he : IE G B W X o m) (hmx : mx = G.nm mi) (cl : Cls X.K (G.ca kc)) (hm : Meth X.K (G.ca kc) mx f) (F : FnOk X.prog X.w X.K X.mg X.base (L2.CX X.prog X.w) k f fd ps (spF G N fn)) (hr : Room k X.A) (tk : Takes X W) (hb : Binds X.K fd ps ds) (hd : Vals dvs ds) (gd : GVs G dws dvs)
    (ht : eval (.Call (.Attribute o mx apos) [] [] pos) X.env = (do
      let ov ← eval o X.env
      standAt apos.atName
      let (f, first) ← holding [ov] (getMethod ov mx pl)
      callWith pos f first (backTo pos (starEach [] X.env)) (backToKw pos (keywordEach [] X.env))) := by rfl) :
    IE G B W X (.Call (.Attribute o mx apos) [] [] pos) (mMet kc mi (fun vs h => chk N fn (vs ++ dws) h) m mNil) := by
  subst hmx
  refine ⟨fun pins s σ H Q I ⟨c, τ, L, eH, rl, s', q⟩ => ?_⟩
  refine PySem.W.methodCall_KW (pl := pl) (thn (he.run pins s σ H _ I ⟨c, τ, L, eH, rl, s', Post.bind (R := RV G) q⟩) fun u s1 ⟨y, H1, I1, ry, c1, v, e1, N1, x1, p1⟩ => ?_) ht
  subst e1
  cases q1 : fldsOf v c1.h with
  | none => rw [q1] at p1; exact p1.elim
  | some kf =>
    obtain ⟨k', fs⟩ := kf
    rw [q1] at p1
    simp only at p1
    by_cases hk : k' = kc ∧ (fs.lookup mi).isNone = true
    · rw [if_pos hk] at p1
      obtain ⟨hk1, hk2⟩ := hk
      subst hk1
      obtain ⟨pp, dx, uf, rfl, ep, xf⟩ := inst_at N1.rel x1 q1
      obtain rfl : u = Value.ref pp := ry
      refine getmeth_ok I1 ep cl hm (xf.none (by simpa using hk2)) ?_
      have p2 : Post G (RV G) c1 (fun k d H' => W k d σ H') Q (chk N fn (v :: dws) c1.h) := p1
      unfold chk at p2
      by_cases hl : (v :: dws).length = N
      · rw [if_pos hl] at p2
        exact PySem.W.callWith_K0 (first := [.ref pp]) I1.kIn hm.kp (run_fnSD (us := [.ref pp]) (vs := [.ref pp]) (E := fun σ k d H => W k d σ H) F hr hb hd (passAt tk σ) I1 (.cons rfl .nil) (sp_of N1.rel (RVs.cons x1 (gd c1)) hl p2))
      · rw [if_neg hl] at p2
        exact p2.elim
    · rw [if_neg hk] at p1
      exact p1.elim
end
abbrev FI := List AV → AH → Res (List (Nat × AV))
def runI (N k : Nat) (b : MS) : FI := fun vs h => match b (some (.mI k []) :: vs.map some ++ List.replicate (N - (vs.length + 1)) none) h with
  | .nx τ h' => match τ with
    | some (.mI k' fs) :: _ => if k' = k then .ok fs h' else .stuck
    | _ => .stuck
  | .exc x fs _ h' => .exc x fs h'
  | _ => .stuck
structure StpI (G : Gx) (x : Addr) (c c' : Cfg) : Prop where
 rel : Rel G c'
 mv : Mv c c'
 z : c'.Z = fun a => c.Z a ∧ a ≠ x
 zz : ∀ a, c.Z a → a ≠ x → c'.H a = c.H a
def PostI (G : Gx) (k : Nat) (x : Addr) (c : Cfg) (E : XK) (Q : VK) : Res (List (Nat × AV)) → Prop
 | .ok fs h' => ∀ c' dx uf, StpI G x c c' → c'.h = h' → NA c' x → c'.H x = some (.ins (G.ca k) dx uf) → RVf G c' fs uf → Q .non c'.H
 | .exc y fs h' => ∀ c' cls d, StpI G x c c' → c'.h = h' → RX G c' y fs cls d → E cls d c'.H
 | .stuck => False
def spI (G : Gx) (k n : Nat) (m : FI) : Sp := fun us H Q E => ∃ c vs x us' dx, us = .ref x :: us' ∧ c.H = H ∧ Rel G c ∧ c.Z x ∧ H x = some (.ins (G.ca k) dx []) ∧ RVs G c vs us' ∧ vs.length + 1 = n ∧ PostI G k x c E Q (m vs c.h)
section
variable {P : Program} {w : World} {K : PySem.W.Frag} {mg : Str → Option Value} {base : Heap}
end
def chkI (N : Nat) (f : FI) : FI := fun vs h => if vs.length + 1 = N then f vs h else .stuck
def mMkR (k : Nat) (f : FN) (ma : MA) : ME := fun τ h => (ma τ h).bind fun vs h => match f (.ref h.length :: vs) (h ++ [some (.ins k [])]) with
 | .ok .non h' => .ok (.ref h.length) h'
 | .exc x fs h' => .exc x fs h'
 | _ => .stuck
section
variable {G : Gx} {B : Bx} {W : WX} {X : Cx} {c c' : Cfg} {H H' : Hp} {a b e o : Expr} {es : List Expr} {m n : ME} {ma : MA} {pos p apos : Pos} {k : Nat} {f : Addr} {fd : FuncData} {ps : List Str} {fn : FN} {fi : FI} {N kc : Nat} {ds : List Value} {dvs : List V} {dws : List AV} {x : Str}
theorem run_makeS {CX : CXT} {C : Addr} {sp : Sp} {pins : List (Addr × Obj)} {σ : SL} {H : Hp} {s : Shared} {Q : VK} {us : List Value} {vs : List V} {E : SL → XK} (M : Mk X.K C f) (F : FnOk X.prog X.w X.K X.mg X.base CX k f fd ps sp) (hr : Room (k + 1) X.A) (hb : Binds X.K fd ps ds) (hd : Vals dvs ds)
  (hx : PassesAt CX X σ (E σ)) (I : Inv X pins σ H s) (r : Vals vs us)
  (h : ∀ x dx, H x = none → H dx = none → dx ≠ x → sp (.ref x :: (vs ++ dvs)) (upd (upd H dx (.own x)) x (.ins C dx [])) (fun v H2 => v = .non ∧ Q (.ref x) H2) (E σ)) :
  wpAny (model X.prog X.w) X.A (call (.ref C) us) (EP X pins σ Q) X.xe s := by
 have hq := h (s.heap.objs.size + 1) s.heap.objs.size (I.hok.fresh (Nat.le_succ _)) (I.hok.fresh (Nat.le_refl _)) (Nat.ne_of_lt (Nat.lt_succ_self _))
 have I2 := Inv.made (C := C) I
 have r2 : Vals (V.ref (s.heap.objs.size + 1) :: (vs ++ dvs)) (Value.ref (s.heap.objs.size + 1) :: (us ++ ds)) := .cons rfl (r.append hd)
 have hl : (Value.ref (s.heap.objs.size + 1) :: us ++ ds).length = ps.length := by
  have e := r2.length
  rw [F.len _ _ _ _ hq] at e
  exact e.symm
 refine wpAny_call (make_map (f := f) I.kIn M.makes M.init (beq_iff_eq.mp M.fn) (codeAny_mono (F.run _ X.stack _ _ ⟨Value.ref (s.heap.objs.size + 1) :: us, []⟩ (Value.ref (s.heap.objs.size + 1) :: (us ++ ds)) _ _ (E σ) (hr.make C us [])
  (I2.env0.make C us []) (hb _ (Value.ref (s.heap.objs.size + 1) :: us) I2.kIn hl) r2 hq) fun r s' hq' => ?_))
 cases r with
 | error e => exact hx pins _ _ e s' I2 hq'
 | ok fl =>
  cases fl with
  | ret u =>
   obtain ⟨v, H', I3, rv, ev, q3⟩ := I2.after hq'
   subst ev
   exact ⟨rv, ⟨V.ref (s.heap.objs.size + 1), H', I3, rfl, q3⟩⟩
  | next => exact False.elim hq'
  | brk => exact False.elim hq'
  | cont => exact False.elim hq'
theorem spI_new {vs : List AV} {us : List V} {E : XK} {Q : VK} {q dx : Addr} (r : Rel G c) (xs : RVs G c vs us) (hx : c.H q = none) (hdx : c.H dx = none) (ne : dx ≠ q)
  (pp : Post G (RV G) c E Q ((chkI N fi vs c.h).bind fun fs h => .ok (.obj kc fs) h)) :
  spI G kc N fi (.ref q :: us) (upd (upd c.H dx (.own q)) q (.ins (G.ca kc) dx [])) (fun v H2 => v = .non ∧ Q (.ref q) H2) E := by
 unfold chkI at pp
 by_cases hl : vs.length + 1 = N
 ·rw [if_pos hl] at pp
  have N1 := Nxt.temp (O := .own q) r hdx
  have hx1 : upd c.H dx (.own q) q = none := by rw [upd_ne (Ne.symm ne)]; exact hx
  have M2 := Mv.mine (c := { c with H := upd c.H dx (.own q) }) (O := .ins (G.ca kc) dx []) hx1
  have R2 := N1.rel.mine (O := .ins (G.ca kc) dx []) hx1
  have nz : ¬ c.Z q := r.nz hx
  refine ⟨{ c with Z := fun a => c.Z a ∨ a = q, H := upd (upd c.H dx (.own q)) q (.ins (G.ca kc) dx []) }, vs, q, us, dx, rfl, rfl, R2, .inr rfl, upd_same, (xs.mono N1.mv).mono M2, hl, ?_⟩
  have back : ∀ {c' : Cfg}, StpI G q { c with Z := fun a => c.Z a ∨ a = q, H := upd (upd c.H dx (.own q)) q (.ins (G.ca kc) dx []) } c' → Nxt G c c' := fun {c'} S => by
   refine ⟨S.rel, (N1.mv.trans M2).trans S.mv, ?_, fun a z => ?_⟩
   ·rw [S.z]
    funext a
    refine propext ⟨fun h => h.1.resolve_right h.2, fun h => ⟨.inl h, fun q => nz (by rw [← q]; exact h)⟩⟩
   ·have na : a ≠ q := fun y => nz (by rw [← y]; exact z)
    have nd : a ≠ dx := fun y => (r.nz hdx) (by rw [← y]; exact z)
    rw [S.zz a (.inl z) na]
    show upd (upd c.H dx (.own q)) q _ a = c.H a
    rw [upd_ne na, upd_ne nd]
  show PostI G kc q _ E _ (fi vs c.h)
  revert pp
  cases fi vs c.h with
  | ok fs h' => exact fun pp c' dx' uf S e na hq xf => ⟨rfl, pp c' (.ref q) (back S) e (.obj hq ⟨na, by rw [S.z]; exact fun y => y.2 rfl⟩ xf)⟩
  | exc y fs h' => exact fun pp c' cls d S e xx => pp c' cls d (back S) e xx
  | stuck => exact fun pp => pp.elim
 ·rw [if_neg hl] at pp
  exact pp.elim
theorem spF_new {vs : List AV} {us : List V} {E : XK} {Q : VK} {q dx : Addr} (r : Rel G c) (xs : RVs G c vs us) (hx : c.H q = none) (hdx : c.H dx = none) (ne : dx ≠ q)
  (pp : Post G (RV G) c E Q (match chk N fn (.ref c.h.length :: vs) (c.h ++ [some (.ins kc [])]) with | .ok .non h' => .ok (.ref c.h.length) h' | .exc x fs h' => .exc x fs h' | _ => .stuck)) :
  spF G N fn (.ref q :: us) (upd (upd c.H dx (.own q)) q (.ins (G.ca kc) dx [])) (fun v H2 => v = .non ∧ Q (.ref q) H2) E := by
 have N1 := Nxt.alloc (p := q) (o := .ins kc []) (H' := upd (upd c.H dx (.own q)) q (.ins (G.ca kc) dx [])) r hx
  (fun b o z => by rw [upd_ne (ne_of_none z hx), upd_ne (ne_of_none z hdx)]; exact z) (fun c' M e => ⟨dx, [], by rw [e, upd_same], .nil⟩)
 have y : RV G { c with rho := ext c.rho c.h.length q, h := c.h ++ [some (.ins kc [])], H := upd (upd c.H dx (.own q)) q (.ins (G.ca kc) dx []) } (.ref c.h.length) (.ref (ext c.rho c.h.length q c.h.length)) := .ref (by simp)
 rw [ext_same] at y
 unfold chk at pp
 by_cases hl : (AV.ref c.h.length :: vs).length = N
 ·rw [if_pos hl] at pp
  refine ⟨_, .ref c.h.length :: vs, rfl, N1.rel, .cons y (xs.mono N1.mv), hl, ?_⟩
  show Post G (RV G) _ E _ (fn (.ref c.h.length :: vs) (c.h ++ [some (.ins kc [])]))
  revert pp
  cases fn (.ref c.h.length :: vs) (c.h ++ [some (.ins kc [])]) with
  | ok v h' =>
   intro pp c' u N2 e xu
   cases v with
   | non =>
    cases xu
    exact ⟨rfl, pp c' (.ref q) (N1.trans N2) e (y.mono N2.mv)⟩
   | _ => exact pp.elim
  | exc z fs h' => exact fun pp c' cls d N2 e xx => pp c' cls d (N1.trans N2) e xx
  | stuck => exact fun pp => pp.elim
 ·rw [if_neg hl] at pp
  exact pp.elim
theorem ie_mkR (M : Mk X.K (G.ca kc) f) (F : FnOk X.prog X.w X.K X.mg X.base (L2.CX X.prog X.w) k f fd ps (spF G N fn)) (hr : Room (k + 1) X.A) (tk : Takes X W) (hm : X.mg x = some (.ref (G.ca kc))) (hb : Binds X.K fd ps ds) (hd : Vals dvs ds) (gd : GVs G dws dvs)
  (ha : IA G B W X (e :: es) ma) (hg : Gl X x := by rfl) (hdb : (x == ("__debug__" : Str)) = false := by decide) (he : starEach (e :: es) X.env = (false, eval e X.env) :: starEach es X.env := by rfl) (hpl : (backTo pos (starEach es X.env)).any (·.1) = false := by rfl) :
  IE G B W X (.Call (.Name x p) (e :: es) [] pos) (mMkR kc (fun vs h => chk N fn (vs ++ dws) h) ma) := by
 refine ⟨fun pins s σ H Q I ⟨c, τ, L, eH, rl, s', q⟩ => ?_⟩
 refine wpAny_Call_Name_kw (ld_glob I hg hm ?_ hdb)
 refine PySem.W.callWith_K (h₀ := X.base) I.ok.mod.kin M.kp (thn (ha.run pos pins s σ H _ I ⟨c, τ, L, eH, rl, s', Post.bind (R := RVs G) q⟩) fun us s1 ⟨vs, H1, I1, r, c1, ws, e1, N1, x1, p1⟩ => ⟨I1.kIn, ?_⟩) he hpl
 subst e1
 exact run_makeS (E := fun σ k d H => W k d σ H) M F hr hb hd (passAt tk σ) I1 r fun y dx hy hdx ne => spF_new N1.rel (x1.append (gd c1)) hy hdx ne p1
end
abbrev MX := AS → AH → Res (XC × List (Nat × AV))
def PostX (G : Gx) (c : Cfg) (W : XK) (Q : XK) : Res (XC × List (Nat × AV)) → Prop
 | .ok (x, fs) h' => ∀ c' cls d, Nxt G c c' → c'.h = h' → RX G c' x fs cls d → Q cls d c'.H
 | .exc x fs h' => ∀ c' cls d, Nxt G c c' → c'.h = h' → RX G c' x fs cls d → W cls d c'.H
 | .stuck => False
def tX (G : Gx) (B : Bx) (W : WX) (m : MX) : SL → Hp → XK → Prop := fun σ H Q => ∃ c τ L, c.H = H ∧ Rel G c ∧ RS G B c L τ σ ∧ PostX G c (fun k d H' => W k d σ H') Q (m τ c.h)
def IX (G : Gx) (B : Bx) (W : WX) (X : Cx) (e : Expr) (m : MX) : Prop := PMk X e (tX G B W m)
def mExc (x : XC) (fs : List Nat) (ma : MA) : MX := fun τ h => (ma τ h).bind fun vs h => if vs.length = fs.length then .ok (x, (fs.zip vs).reverse) h else .stuck
def sRaise (m : MX) : MS := fun τ h => (m τ h).bindS τ fun q h => .exc q.1 q.2 τ h
section
variable {G : Gx} {B : Bx} {zs : Addr → Prop} {W : WX} {X : Cx} {c c' : Cfg} {L : List Addr} {τ : AS} {σ : SL} {pos : Pos} {e : Expr} {mx : MX}
theorem is_raise (hc : X.calm = true) (tk : Takes X W) (he : IX G B W X e mx) : IS G B zs W X (.Raise (some e) none pos) (sRaise mx) := PS.imp (ps_raise hc tk he) fun D σ H ⟨c, τ, L, eH, r, o, s, p⟩ => by
 refine ⟨c, τ, L, eH, r, s, ?_⟩
 unfold sRaise at p
 revert p
 cases mx τ c.h with
 | ok q h1 => exact fun p c' k d N e x => p c' L σ k d (Stp.of N o) e x (s.nxt N)
 | exc x fs h1 => exact fun p c' k d N e x => p c' L σ k d (Stp.of N o) e x (s.nxt N)
 | stuck => exact fun p => p.elim
def spE (C : Addr) (fs : List Str) : Sp := fun us H Q _ => ∃ a vs, us = .ref a :: vs ∧ vs.length = fs.length ∧ H a = some (exo a C none) ∧
 ∀ d H2, H d = none → d ≠ a → H2 a = some (exo a C (some d)) → H2 d = some (exd d (fs.zip vs).reverse) → (∀ b, b ≠ a → b ≠ d → H2 b = H b) → Q .non H2
end
section
variable {P : Program} {w : World} {K : PySem.W.Frag} {mg : Str → Option Value} {base : Heap}
theorem ok_einit1 {x qual : Str} {st : Stmt} {f C : Addr} {fd : FuncData} {s p1 f1 : Str} {q1 q2 q3 q4 : Pos} (F : Fun K x qual st f fd) (S : FnScope [s, p1] [s, p1] (defScope st)) (T : OexC K C) (n1 : PySem.W.findIn K (.ref C) f1 = some none)
  (hb : defBody st = [.Assign [.Attribute (.Name s q1) f1 q2] (.Name p1 q3) q4]) (v0 : Vis (defScope st) s) (v1 : Vis (defScope st) p1)
  (d0 : (s == ("__debug__" : Str)) = false) (c0 : (s == ("__classdict__" : Str)) = false) (d1 : (p1 == ("__debug__" : Str)) = false) (c1 : (p1 == ("__classdict__" : Str)) = false) :
  FnOk P w K mg base (L2.CX P w) 1 f fd [s, p1] (spE C [f1]) := by
 refine F.okX S (fun vs H Q E h => ?_) (fun cdv A outer s' H vs Q E hr h => ?_)
 ·obtain ⟨a, vs, rfl, l, _⟩ := h
  simp at l
  simp [l]
 ·obtain ⟨a, vs, rfl, l, ea, k⟩ := h
  match vs, l with
  | [u1], _ =>
   rw [hb]
   refine ⟨_, pss_one (ps_ost (pe_var (i := 0) rfl v0 d0 c0) (pe_var (i := 1) rfl v1 d1 c1)), ?_⟩
   refine ⟨u1, rfl, _, rfl, a, C, rfl, T, n1, .inl ⟨ea, fun d hd ne => ?_⟩⟩
   exact k d _ hd ne upd_same (by rw [upd_ne ne, upd_same]; rfl) fun b h1 h2 => by rw [upd_ne h1, upd_ne h2]
theorem ok_einit2 {x qual : Str} {st : Stmt} {f C : Addr} {fd : FuncData} {s p1 p2 f1 f2 : Str} {q1 q2 q3 q4 r1 r2 r3 r4 : Pos} (F : Fun K x qual st f fd) (S : FnScope [s, p1, p2] [s, p1, p2] (defScope st)) (T : OexC K C) (n1 : PySem.W.findIn K (.ref C) f1 = some none) (n2 : PySem.W.findIn K (.ref C) f2 = some none)
  (hb : defBody st = [.Assign [.Attribute (.Name s q1) f1 q2] (.Name p1 q3) q4, .Assign [.Attribute (.Name s r1) f2 r2] (.Name p2 r3) r4]) (v0 : Vis (defScope st) s) (v1 : Vis (defScope st) p1) (v2 : Vis (defScope st) p2)
  (d0 : (s == ("__debug__" : Str)) = false) (c0 : (s == ("__classdict__" : Str)) = false) (d1 : (p1 == ("__debug__" : Str)) = false) (c1 : (p1 == ("__classdict__" : Str)) = false) (d2 : (p2 == ("__debug__" : Str)) = false) (c2 : (p2 == ("__classdict__" : Str)) = false) :
  FnOk P w K mg base (L2.CX P w) 1 f fd [s, p1, p2] (spE C [f1, f2]) := by
 refine F.okX S (fun vs H Q E h => ?_) (fun cdv A outer s' H vs Q E hr h => ?_)
 ·obtain ⟨a, vs, rfl, l, _⟩ := h
  simp at l
  simp [l]
 ·obtain ⟨a, vs, rfl, l, ea, k⟩ := h
  match vs, l with
  | [u1, u2], _ =>
   rw [hb]
   refine ⟨_, pss_cons (ps_ost (pe_var (i := 0) rfl v0 d0 c0) (pe_var (i := 1) rfl v1 d1 c1)) (pss_one (ps_ost (pe_var (i := 0) rfl v0 d0 c0) (pe_var (i := 2) rfl v2 d2 c2))), ?_⟩
   refine ⟨u1, rfl, _, rfl, a, C, rfl, T, n1, .inl ⟨ea, fun d hd ne => ?_⟩⟩
   refine ⟨u2, rfl, _, rfl, a, C, rfl, T, n2, .inr ⟨d, [(f1, u1)], upd_same, by rw [upd_ne ne, upd_same], by simp, ?_⟩⟩
   exact k d _ hd ne (by rw [upd_ne (Ne.symm ne), upd_same]) upd_same fun b h1 h2 => by rw [upd_ne h2, upd_ne h1, upd_ne h2]
end
section
variable {G : Gx} {B : Bx} {zs : Addr → Prop} {W : WX} {X : Cx} {c c' : Cfg} {L : List Addr} {τ : AS} {σ : SL} {pos p : Pos} {e : Expr} {es : List Expr} {ma : MA} {k kc : Nat} {fI : Addr} {fd : FuncData} {ps : List Str} {x : Str} {fs : List Nat}
theorem zip_rvf {vs : List AV} {us : List V} : ∀ (fs : List Nat) (acc : List (Nat × AV)) (uacc : List (Str × V)), RVs G c vs us → RVf G c acc uacc → RVf G c ((fs.zip vs).reverse ++ acc) (((fs.map G.nm).zip us).reverse ++ uacc)
 | [], acc, uacc, _, q => by simpa using q
 | f :: fs, acc, uacc, .nil, q => by simpa using q
 | f :: fs, acc, uacc, .cons x r, q => by
  have y := zip_rvf fs ((f, _) :: acc) ((G.nm f, _) :: uacc) r (.cons x q)
  simpa using y
theorem ix_mk (T : OexC X.K (G.ca kc)) (iC : PySem.W.findIn X.K (.ref (G.ca kc)) "__init__" = some (some (.ref fI))) (tI : PySem.W.typeIn X.K (.ref fI) = some (.type "function"))
  (F1 : FnOk X.prog X.w X.K X.mg X.base (L2.CX X.prog X.w) k fI fd ps (spE (G.ca kc) (fs.map G.nm))) (hr : Room (k + 1) X.A) (hb : Binds X.K fd ps []) (hm : X.mg x = some (.ref (G.ca kc))) (ha : IA G B W X (e :: es) ma) (hfs : fs.length ≤ 1000 := by decide) (hg : Gl X x := by rfl)
  (hdb : (x == ("__debug__" : Str)) = false := by decide) (he : starEach (e :: es) X.env = (false, eval e X.env) :: starEach es X.env := by rfl) (hpl : (backTo pos (starEach es X.env)).any (·.1) = false := by rfl) :
  IX G B W X (.Call (.Name x p) (e :: es) [] pos) (mExc (.own kc) fs ma) := by
 intro pins s σ H Q I ⟨c, τ, L, eH, rl, s', q⟩
 refine pmk_oex T iC tI F1 hr hb .nil passL hg hm ha hdb he hpl pins s σ H Q I ⟨c, τ, L, eH, rl, s', ?_⟩
 have q2 : PostX G c (fun k d H' => W k d σ H') Q ((ma τ c.h).bind fun vs h => if vs.length = fs.length then .ok (.own kc, (fs.zip vs).reverse) h else .stuck) := q
 revert q2
 cases ma τ c.h with
 | exc y fy h1 => exact fun q2 => q2
 | stuck => exact fun q2 => q2
 | ok vs h1 =>
  intro q2 c1 us N1 e1 x1
  unfold Res.bind at q2
  simp only at q2
  by_cases hl : vs.length = fs.length
  ·rw [if_pos hl] at q2
   refine ⟨?_, fun a ha => ?_⟩
   ·rw [← x1.length, hl]; exact hfs
   ·rw [List.append_nil]
    refine ⟨a, us, rfl, by rw [← x1.length, hl, List.length_map], upd_same, fun d H2 hd ne h1 h2 h3 => ⟨rfl, d, _, h1, h2, ?_, ?_⟩⟩
    ·rw [upd_ne ne] at hd; exact hd
    ·have hd' : c1.H d = none := by rw [upd_ne ne] at hd; exact hd
     have keep : ∀ b o, c1.H b = some o → upd (del H2 a) d (.xd ((fs.map G.nm).zip us).reverse) b = some o := fun b o z => by
      have nb : b ≠ a := ne_of_none z ha
      have nd : b ≠ d := ne_of_none z hd'
      rw [upd_ne nd, del_ne nb, h3 b nb nd, upd_ne nb]; exact z
     have N2 := Nxt.grow N1.rel keep
     refine q2 _ _ _ (N1.trans N2) e1 ⟨rfl, .inr ⟨d, _, rfl, upd_same, N1.rel.frz hd', ?_⟩⟩
     have y := zip_rvf fs [] [] (x1.mono N2.mv) .nil
     simpa using y
  ·rw [if_neg hl] at q2
   exact q2.elim
end
def noE (τ : AS) : Bool := τ.all fun o => match o with
 | some (.mE _ _) => false
 | _ => true
def Bx.exc (B : Bx) (a : Addr) (k : Value) (d : Option Addr) : Bx := { B with ea := a, ec := k, ed := d }
def suiteEnd (i : Nat) : SRes → SRes
 | .nx τ h => if noE (τ.set i none) then .nx (τ.set i none) h else .stuck
 | .bk τ h => if noE (τ.set i none) then .bk (τ.set i none) h else .stuck
 | .ct τ h => if noE (τ.set i none) then .ct (τ.set i none) h else .stuck
 | .rt v h => .rt v h
 | _ => .stuck
def sTryAs (b : MS) (mt : XC → Option Bool) (i : Nat) (su : MS) : MS := fun τ h => match b τ h with
  | .exc x fs τ' h' => match mt x with
    | some true => if noE τ' ∧ i < τ'.length then suiteEnd i (su (τ'.set i (some (.mE x fs))) h') else .stuck
    | some false => .exc x fs τ' h'
    | none => .stuck
  | r => r
def suiteEnd0 : SRes → SRes
 | .exc _ _ _ _ => .stuck
 | r => r
section
variable {G : Gx} {B B' : Bx} {zs : Addr → Prop} {W : WX} {X : Cx} {c c' : Cfg} {L : List Addr} {τ : AS} {σ : SL} {pos pos' p np : Pos} {e : Expr} {es : List Expr} {ma : MA} {x n : Str} {i : Nat} {mt : XC → Option Bool} {cv : Value} {body suite : List Stmt} {b0 : Stmt} {mb ms : MS}
theorem RS.ex (r : RS G B c L τ σ) (h : noE τ = true) (e : B'.me = B.me) : RS G B' c L τ σ := by
 induction r with
 | nil => exact .nil
 | cons y _ ih =>
  unfold noE at h
  rw [List.all_cons, Bool.and_eq_true] at h
  refine .cons ?_ (ih h.2)
  cases y with
  | skip => exact .skip
  | val x => exact .val x
  | mL z e x => exact .mL z e x
  | mD z e x => exact .mD z e x
  | mI z e1 x => rw [← e] at z e1 ⊢; exact .mI z e1 x
  | mE x => exact absurd h.1 (by simp)
theorem RS.gone (o : Own zs L c) (r : Rel G c) (s : RS G B c L τ σ) (i : Nat) (t : Option V) : ∃ L', Stp G zs L c L' c ∧ RS G B c L' (τ.set i none) (σ.set i t) := by
 by_cases hi : i < τ.length
 ·obtain ⟨P, S, l, u, e1, e2, y, f⟩ := s.focus (i := i) (o := τ[i]) (List.getElem?_eq_getElem hi)
  have q := f c [] none t .refl (fun a h => ⟨s.z a (by rw [e1]; simp at h ⊢; rcases h with h | h <;> simp [h]), rfl⟩) .skip
  have sub : ∀ a, a ∈ P ++ [] ++ S → a ∈ L := fun a h => by rw [e1]; simp at h ⊢; rcases h with h | h <;> simp [h]
  refine ⟨_, ⟨r, .refl, ⟨o.low, fun a h => o.dis a (sub a h), ?_⟩, fun _ _ => rfl, fun a h => .inl (sub a h)⟩, q⟩
  have nd := o.nd
  rw [e1] at nd
  simp only [List.append_nil]
  exact nd.sublist (List.Sublist.append (List.sublist_append_left P l) (List.Sublist.refl S))
 ·have hl : τ.length = σ.length := by
   clear o r hi
   induction s with
   | nil => rfl
   | cons _ _ ih => simp [ih]
  rw [List.set_eq_of_length_le (by omega), List.set_eq_of_length_le (by omega)]
  exact ⟨L, .refl r o, s⟩
theorem RS.exc (o : Own zs L c) (r : Rel G c) (s : RS G B c L τ σ) {k : Value} {d : Option Addr} {a : Addr} {y : XC} {fs : List (Nat × AV)} (hi : i < τ.length) (h : noE τ = true) (q : RX G c y fs k d) :
  ∃ L', Stp G zs L c L' c ∧ RS G (B.exc a k d) c L' (τ.set i (some (.mE y fs))) (σ.set i (some (.ref a))) := by
 have s2 : RS G (B.exc a k d) c L τ σ := s.ex h rfl
 obtain ⟨P, S, l, u, e1, e2, _, f⟩ := s2.focus (i := i) (o := τ[i]) (List.getElem?_eq_getElem hi)
 have q := f c [] (some (.mE y fs)) (some (.ref a)) .refl (fun a h => ⟨s.z a (by rw [e1]; simp at h ⊢; rcases h with h | h <;> simp [h]), rfl⟩) (SR.mE (B := B.exc a k d) q)
 have sub : ∀ a, a ∈ P ++ [] ++ S → a ∈ L := fun a h => by rw [e1]; simp at h ⊢; rcases h with h | h <;> simp [h]
 refine ⟨_, ⟨r, .refl, ⟨o.low, fun a h => o.dis a (sub a h), ?_⟩, fun _ _ => rfl, fun a h => .inl (sub a h)⟩, q⟩
 have nd := o.nd
 rw [e1] at nd
 simp only [List.append_nil]
 exact nd.sublist (List.Sublist.append (List.sublist_append_left P l) (List.Sublist.refl S))
theorem is_try_as (i : Nat) (hN : X.N.Nodup) (tk : Takes X W) (hc : Names X x cv) (hmt : ∀ y b, mt y = some b → PySem.W.exmOne X.K (G.xv y) cv = some b)
  (hb : ∀ (W : WX) (pn : List (Addr × Obj)) (xe : Value → Shared → Prop), Takes (X.tr pn xe) W → PassesOwn (model X.prog X.w) X.A X.env xe → ISs G B zs W (X.tr pn xe) body mb)
  (hsu : ∀ (a : Addr) (oe : Obj) (cls : Value) (d : Option Addr) (pn : List (Addr × Obj)), Zc cls d oe → (∃ vs, oe.data = .fields vs) → ISs G (B.exc a cls d) zs (fun _ _ _ _ => False) (X.suite a ((a, oe) :: pn)) (b0 :: suite) ms)
  (hs : X.stack = X.env :: X.outer := by rfl) (hf : X.env.frame = some X.env.locals := by rfl) (hi : X.N[i]? = some n := by rfl) (hln : X.env.kindOf n = some .local := by rfl) :
  IS G B zs W X (.Try body [.ExceptHandler (some (.Name x np)) (some n) (b0 :: suite) pos'] [] [] pos) (sTryAs mb mt i ms) := by
 refine PS.imp (ps_try_as (tb := fun W => tS G B zs W mb) (ts := fun a cls d => tS G (B.exc a cls d) zs (fun _ _ _ _ => False) ms) hs hf hN hi hln hc tk hb hsu) fun D σ H ⟨c, τ, L, eH, r, o, s, p⟩ => ?_
 refine ⟨c, τ, L, eH, r, o, s, ?_⟩
 unfold sTryAs at p
 revert p
 cases mb τ c.h with
 | nx τ h => exact fun p => p
 | rt τ h => exact fun p => p
 | bk τ h => exact fun p => p
 | ct τ h => exact fun p => p
 | stuck => exact fun p => p
 | exc y fs τ1 h1 =>
  intro p c1 L1 σ1 k d S e1 x1 s1
  simp only at p
  obtain rfl : k = G.xv y := x1.1
  cases q : mt y with
  | none => rw [q] at p; exact p.elim
  | some b =>
   rw [q] at p
   refine ⟨b, hmt y b q, fun eb a ha => ?_, fun eb => ?_⟩
   ·subst eb
    simp only at p
    by_cases hh : noE τ1 = true ∧ i < τ1.length
    ·rw [if_pos hh] at p
     obtain ⟨L2, S2, s2⟩ := RS.exc (a := a) S.own S.rel s1 hh.2 hh.1 x1
     refine ⟨c1, _, L2, rfl, S2.rel, S2.own, s2, ?_⟩
     subst e1
     have p2 := PostS.trans (S.trans S2) p
     revert p2
     unfold suiteEnd
     have back : ∀ {c3 : Cfg} {L3 : List Addr} {τ3 : AS} {σ3 : SL}, Stp G zs L2 c1 L3 c3 → RS G (B.exc a (G.xv y) d) c3 L3 τ3 σ3 → noE (τ3.set i none) = true → ∃ L4, Stp G zs L2 c1 L4 c3 ∧ RS G B c3 L4 (τ3.set i none) (σ3.set i none) := fun {c3 L3 τ3 σ3} S3 s3 hn => by
      obtain ⟨L4, S4, s4⟩ := RS.gone S3.own S3.rel s3 i none
      exact ⟨L4, S3.trans S4, s4.ex hn rfl⟩
     cases ms (τ1.set i (some (.mE y fs))) c1.h with
     | nx τ3 h3 =>
      intro p2 c3 L3 σ3 S3 e3 s3
      simp only at p2
      by_cases hn : noE (τ3.set i none) = true
      ·rw [if_pos hn] at p2
       obtain ⟨L4, S4, s4⟩ := back S3 s3 hn
       exact p2 c3 L4 _ S4 e3 s4
      ·rw [if_neg hn] at p2; exact p2.elim
     | bk τ3 h3 =>
      intro p2 c3 L3 σ3 S3 e3 s3
      simp only at p2
      by_cases hn : noE (τ3.set i none) = true
      ·rw [if_pos hn] at p2
       obtain ⟨L4, S4, s4⟩ := back S3 s3 hn
       exact p2 c3 L4 _ S4 e3 s4
      ·rw [if_neg hn] at p2; exact p2.elim
     | ct τ3 h3 =>
      intro p2 c3 L3 σ3 S3 e3 s3
      simp only at p2
      by_cases hn : noE (τ3.set i none) = true
      ·rw [if_pos hn] at p2
       obtain ⟨L4, S4, s4⟩ := back S3 s3 hn
       exact p2 c3 L4 _ S4 e3 s4
      ·rw [if_neg hn] at p2; exact p2.elim
     | rt v h3 => exact fun p2 c3 L3 u S3 e3 x3 => p2 c3 L3 u S3 e3 x3
     | exc _ _ _ _ => exact fun p2 => p2.elim
     | stuck => exact fun p2 => p2.elim
    ·rw [if_neg hh] at p
     exact p.elim
   ·subst eb
    exact p c1 L1 σ1 _ d S e1 x1 s1
end
def few (fs : List (Nat × AV)) : Bool := decide (fs.length ≤ 900)
def sOwnF (ks : List Nat) (f : Nat) (m : ME) : MS := fun τ h => (m τ h).bindS τ fun v h => match τ with
 | some (.mI k fs) :: r => if ks.contains k && few fs then .nx (some (.mI k (aput f v fs)) :: r) h else .stuck
 | _ => .stuck
def sFldSet (ks : List Nat) (f : Nat) (o m : ME) : MS := fun τ h => (m τ h).bindS τ fun v h => (o τ h).bindS τ fun w h => match w with
  | .ref n => match h[n]? with
    | some (some (.ins k fs)) => if ks.contains k && few fs then .nx τ (h.set n (some (.ins k (aput f v fs)))) else .stuck
    | _ => .stuck
  | _ => .stuck
def flatA : AV → Bool
 | .non => true
 | .bl _ => true
 | .int _ => true
 | .str _ => true
 | _ => false
def mExF (ks : List Nat) (i f : Nat) : ME := fun τ h => match τ[i]? with
 | some (some (.mE (.own k) fs)) => if ks.contains k then (match fs.lookup f with | some v => if plainV v then .ok v h else .stuck | none => .stuck) else .stuck
 | _ => .stuck
section
variable {G : Gx} {B : Bx} {zs : Addr → Prop} {W : WX} {X : Cx} {c c' : Cfg} {L : List Addr} {τ : AS} {σ : SL} {pos pos' p : Pos} {e o : Expr} {es : List Expr} {m mo : ME} {ma : MA} {mt : MT} {x : Str} {i : Nat}
theorem len_few {fs : List (Nat × AV)} {uf : List (Str × V)} (x : RVf G c fs uf) (e : few fs = true) : uf.length < 1000 := by
 have := of_decide_eq_true e
 rw [← x.length]
 omega
theorem is_ownf {ks : List Nat} {f : Nat} {fx s : Str} {q1 q2 : Pos} (he : IE G B W X e m) (hf : fx = G.nm f) (hks : ∀ k, k ∈ ks → FldOk G X.K f k) (hN : X.N[0]? = some s := by rfl) (hv : Vis X.env.scope s := by first | exact Or.inl rfl | exact Or.inr (Or.inl rfl)) (hd : (s == ("__debug__" : Str)) = false := by decide)
    (hcd : (s == ("__classdict__" : Str)) = false := by decide) (hs : swapsWith e (some (.Attribute (.Name s q1) fx q2)) pos.line X.env = pure false := by rfl) : IS G B zs W X (.Assign [.Attribute (.Name s q1) fx q2] e pos) (sOwnF ks f m) := by
  subst hf
  refine PS.imp (ps_fld (pv 0 hN hv hd hcd) he hs) fun D σ H ⟨c, τ, L, eH, r, o, s, p⟩ => ?_
  refine ⟨c, τ, L, eH, r, s, (PostS.bindS (R := RV G) o s p).imp fun u H1 ⟨c1, v, e1, N1, x1, p1⟩ => ?_⟩
  subst e1
  have s1 := s.nxt N1
  cases s1 with
  | nil => exact p1.elim
  | @cons l L2 o2 s2 τ2 σ2 sr s1 =>
    cases sr with
    | @mI k fs dx us z1 ei xf =>
      simp only at p1
      by_cases hk : (ks.contains k && few fs) = true
      · rw [if_pos hk] at p1
        rw [Bool.and_eq_true] at hk
        have hk' : k ∈ ks := by simpa using hk.1
        refine ⟨_, rfl, B.me, _, dx, us, rfl, ei, (hks k hk').cl, (hks k hk').no, len_few xf hk.2, ?_⟩
        have o1 := o.nxt N1
        have M := Mv.turn (O := .ins (G.ca k) dx (putF (G.nm f) u us)) z1
        have R := N1.rel.turn (O := .ins (G.ca k) dx (putF (G.nm f) u us)) z1
        have nd := o1.nd
        rw [List.cons_append, List.nil_append, List.nodup_cons] at nd
        refine p1 _ _ _ ⟨R, M, ⟨o1.low, o1.dis, o1.nd⟩, fun a za => upd_ne fun y => o1.dis B.me (by simp) (by rw [← y]; exact za), fun _ h => .inl h⟩ rfl (.cons (.mI z1 upd_same ((xf.put x1).mono M)) (s1.mono M fun a h => ⟨s1.z a h, upd_ne fun y => nd.1 (by rw [← y]; exact h)⟩))
      · rw [if_neg hk] at p1; exact p1.elim
    | skip => exact p1.elim
    | @val v _ q => cases v <;> first | exact p1.elim | cases q
    | mL _ _ _ => exact p1.elim
    | mD _ _ _ => exact p1.elim
    | mE _ => exact p1.elim
theorem is_fldset {ks : List Nat} {f : Nat} {fx : Str} (ho : IE G B W X o mo) (he : IE G B W X e m) (hf : fx = G.nm f) (hks : ∀ k, k ∈ ks → FldOk G X.K f k) (hs : swapsWith e (some (.Attribute o fx pos')) pos.line X.env = pure false := by rfl) :
    IS G B zs W X (.Assign [.Attribute o fx pos'] e pos) (sFldSet ks f mo m) := by
  subst hf
  refine PS.imp (ps_fld ho he hs) fun D σ H ⟨c, τ, L, eH, r, o, s, p⟩ => ?_
  refine ⟨c, τ, L, eH, r, s, (PostS.bindS (R := RV G) o s p).imp fun u H1 ⟨c1, v, e1, N1, x1, p1⟩ => ?_⟩
  refine ⟨c1, τ, L, e1, N1.rel, s.nxt N1, (PostS.bindS (R := RV G) (o.nxt N1) (s.nxt N1) p1).imp fun u2 H2 ⟨c2, w, e2, N2, x2, p2⟩ => ?_⟩
  subst e2
  cases x2 with
  | @ref n hn =>
    simp only at p2
    split at p2
    · rename_i k fs q
      by_cases hk : (ks.contains k && few fs) = true
      · rw [if_pos hk] at p2
        rw [Bool.and_eq_true] at hk
        have hk' : k ∈ ks := by simpa using hk.1
        obtain ⟨dx, uf, q1, q2⟩ := N2.rel.obj n _ q
        refine ⟨_, _, dx, uf, rfl, q1, (hks k hk').cl, (hks k hk').no, len_few q2 hk.2, ?_⟩
        have N3 := Nxt.write (o' := .ins k (aput f v fs)) (O := .ins (G.ca k) dx (putF (G.nm f) u uf)) N2.rel q fun c3 M e3 => ⟨dx, _, e3, (q2.put (x1.mono N2.mv)).mono M⟩
        have o2 := (o.nxt N1).nxt N2
        exact p2 _ L σ (Stp.of N3 o2) rfl (((s.nxt N1).nxt N2).nxt N3)
      · rw [if_neg hk] at p2; exact p2.elim
    · exact p2.elim
  | _ => exact p2.elim
theorem Own.fresh {q : Addr} {O : HO} {P S l : List Addr} (r : Rel G c) (o : Own zs L c) (hq : c.H q = none) (e1 : L = P ++ l ++ S) (hz : ∀ a, a ∈ L → c.Z a) (ht : isHid O = false := by rfl) :
    Stp G zs L c (P ++ [q] ++ S) { c with Z := fun a => c.Z a ∨ a = q, H := upd c.H q O } := by
  have nz : ¬ c.Z q := r.nz hq
  have nq : q ∉ L := fun h => nz (hz q h)
  have sub : ∀ a, a ∈ P ++ S → a ∈ L := fun a h => by rw [e1]; simp at h ⊢; rcases h with h | h <;> simp [h]
  refine ⟨r.mine hq ht, Mv.mine hq, ⟨fun a z => .inl (o.low a z), fun a h z => ?_, ?_⟩, fun a z => upd_ne fun y => nz (by rw [← y]; exact o.low a z), fun a h => ?_⟩
  · by_cases y : a = q
    · exact nz (by rw [← y]; exact o.low a z)
    · exact o.dis a (sub a (by simp at h ⊢; rcases h with h | h | h; (exact .inl h); (exact absurd h y); (exact .inr h))) z
  · have nd := o.nd
    rw [e1] at nd
    have nd2 : (P ++ S).Nodup := nd.sublist (List.Sublist.append (List.sublist_append_left P l) (List.Sublist.refl S))
    have np : q ∉ P ++ S := fun h => nq (sub q h)
    rw [List.append_assoc]
    refine (List.perm_middle (a := q) (l₁ := P) (l₂ := S)).nodup_iff.mpr ?_
    exact List.nodup_cons.mpr ⟨np, nd2⟩
  · by_cases y : a = q
    · exact .inr (by rw [y]; exact hq)
    · exact .inl (sub a (by simp at h ⊢; rcases h with h | h | h; (exact .inl h); (exact absurd h y); (exact .inr h)))
end
def strS (n : Nat) : Bool := decide (n ≤ 16777216)
def kAdd (v w : AV) (h : AH) : Option (AV × AH) := match v, w with
 | .int i, .int j => some (.int (i + j), h)
 | .str x, .str y => if small (x.length + y.length) then some (.str (x ++ y), h) else none
 | .fl xs, .fl ys => if small (xs.length + ys.length) then some (.fl (xs ++ ys), h) else none
 | .tup xs, .tup ys => if small (xs.length + ys.length) && !xs.isEmpty then some (.tup (xs ++ ys), h) else none
 | _, _ => none
def kSub (v w : AV) (h : AH) : Option (AV × AH) := match v, w with
 | .int i, .int j => some (.int (i - j), h)
 | _, _ => none
def mulOk (i j : Int) : Bool := decide ((-18446744073709551616 < i ∧ i < 18446744073709551616) ∨ (-18446744073709551616 < j ∧ j < 18446744073709551616))
def kMul (v w : AV) (h : AH) : Option (AV × AH) := match v, w with
 | .int i, .int j => if mulOk i j then some (.int (i * j), h) else none
 | .str x, .int n => if decide (0 ≤ n ∧ n ≤ 10000 ∧ x.length ≤ 1000) then some (.str (Txt.mul x n), h) else none
 | _, _ => none
def kFdiv (v w : AV) (h : AH) : Option (AV × AH) := match v, w with
 | .int i, .int j => if decide (0 < j ∧ j < 10 ^ 60) then some (.int (i / j), h) else none
 | _, _ => none
def kMod (v w : AV) (h : AH) : Option (AV × AH) := match v, w with
 | .int i, .int j => if decide (0 < j) then some (.int (i % j), h) else none
 | _, _ => none
def kPow (v w : AV) (h : AH) : Option (AV × AH) := match v, w with
 | .int i, .int j => if decide (0 ≤ j ∧ j ≤ 1000000 ∧ -18446744073709551616 < i ∧ i < 18446744073709551616) then some (.int (i ^ j.toNat), h) else none
 | _, _ => none
def kNeg (v : AV) (h : AH) : Option (AV × AH) := match v with
 | .int i => some (.int (-i), h)
 | _ => none
section
variable {G : Gx} {X : Cx} {c c' : Cfg}
theorem strOk_app {x y : Str} (h1 : PyData.strOk x = true) (h2 : PyData.strOk y = true) : PyData.strOk (x ++ y) = true := by
 unfold PyData.strOk at *
 show ((x.cps ++ y.cps).all _) = true
 rw [Array.all_append, h1, h2]
 rfl
def rCatL (K : PySem.W.Frag) : R2 := fun x y H Q => ∃ l b xs zs, x = .ref l ∧ y = .ref b ∧ SqL K H l xs ∧ SqL K H b zs ∧ xs.length + zs.length ≤ sizeLine ∧ ∀ p, H p = none → Q (.ref p) (upd H p (.lst (xs ++ zs)))
theorem op_catL : OpR X (binaryOp .Add) (rCatL X.K) := by
 intro pins s σ H x y v u Q I rx ry h
 obtain ⟨l, b, xs, zs, rfl, rfl, hH, hB, hz, q⟩ := h
 cases rx
 cases ry
 obtain ⟨its, r, pl, _⟩ := I.list hH
 obtain ⟨its2, r2, pl2, _⟩ := I.list hB
 have h1 := r.length
 have h2 := r2.length
 obtain ⟨⟨cls, dd, data, sl⟩, n1, ho, hc, hdd, hd⟩ := pl
 obtain ⟨⟨cls2, dd2, data2, sl2⟩, n2, ho2, hc2, hdd2, hd2⟩ := pl2
 simp only at hc hdd hd hc2 hdd2 hd2
 subst hc hdd hd hc2 hdd2 hd2
 have ea : its.toArray ++ its2.toArray = (its ++ its2).toArray := by simp
 refine concat_meets ⟨_, ho, rfl⟩ ⟨_, ho2, rfl⟩ noFill_list_add seq_list_add PySem.F.slot_list_add PySem.F.entry_list_add (PySem.F.args_list_add_2 _ _) (list_addW l b its.toArray its2.toArray n1 n2 none none sl sl2 (by rw [List.size_toArray, List.size_toArray]; omega)) ⟨ho, ho2, ?_⟩
 rw [ea]
 exact ⟨.ref _, _, I.lnew (t' := s.toks) (r.append r2) (by rw [List.length_append]; omega), rfl, q _ I.fresh⟩
theorem RVs.nil_iff {xs : List AV} {us : List V} (r : RVs G c xs us) : us = [] ↔ xs = [] := by
 cases r with
 | nil => simp
 | cons _ _ => simp
theorem rv_list {K : PySem.W.Frag} (hK : K = G.K) {xs : List AV} {u : V} (x : RV G c (.fl xs) u) : ∃ a us, u = .ref a ∧ SqL K c.H a us ∧ RVs G c xs us := by
 subst hK
 cases x with
 | fl r f y => exact ⟨_, _, rfl, .inl r, y⟩
 | flK k y => exact ⟨_, _, rfl, .inr k, y⟩
theorem rv_tup {K : PySem.W.Frag} (hK : K = G.K) {xs : List AV} {u : V} (x : RV G c (.tup xs) u) : ∃ a us, u = .ref a ∧ SqT K c.H a us ∧ RVs G c xs us := by
 subst hK
 cases x with
 | tup r f y => exact ⟨_, _, rfl, .inl r, y⟩
 | tupK k y => exact ⟨_, _, rfl, .inr k, y⟩
theorem post_fin {Q : VK} {v : AV} {u : V} (r : Rel G c) (p : PostO G c Q (some (v, c.h))) (x : RV G c v u) : Q u c.H := p c u (.refl r) rfl x
theorem post_lst {Q : VK} {vs : List AV} {us : List V} (r : Rel G c) (p : PostO G c Q (some (.fl vs, c.h))) (x : RVs G c vs us) : ∀ q, c.H q = none → Q (.ref q) (upd c.H q (.lst us)) := fun q hq =>
 have N := Nxt.temp (O := .lst us) r hq
 p _ _ N rfl (.fl (.inl upd_same) (r.frz hq) (x.mono N.mv))
theorem post_tup {Q : VK} {vs : List AV} {us : List V} (r : Rel G c) (p : PostO G c Q (some (.tup vs, c.h))) (x : RVs G c vs us) : ∀ q, c.H q = none → Q (.ref q) (upd c.H q (.tup us)) := fun q hq =>
 have N := Nxt.temp (O := .tup us) r hq
 p _ _ N rfl (.tup (.inl upd_same) (r.frz hq) (x.mono N.mv))
def rAddA (K : PySem.W.Frag) : R2 := fun x y H Q => (((∃ i j, x = .int i ∧ y = .int j ∧ Q (.int (i + j)) H) ∨ (∃ i j, x = .str i ∧ y = .str j ∧ i.length + j.length ≤ sizeLine ∧ Q (.str (i ++ j)) H)) ∨ rCatL K x y H Q) ∨ rCatT K x y H Q
theorem op_addA : OpR X (binaryOp .Add) (rAddA X.K) := OpR.or (OpR.or (OpR.or op_add op_add_str) op_catL) op_catT
theorem ao_add (hK : X.K = G.K) : AO2 G kAdd (rAddA X.K) := fun c v w u x Q r xv xw p => by
 have sl : ∀ {n : Nat}, small n = true → n ≤ sizeLine := small_le
 cases v with
 | int i =>
  cases w with
  | int j =>
   cases xv; cases xw
   exact .inl (.inl (.inl ⟨i, j, rfl, rfl, post_fin r p .int⟩))
  | _ => exact p.elim
 | str i =>
  cases w with
  | str j =>
   cases xv with
   | str k1 =>
    cases xw with
    | str k2 =>
     unfold kAdd at p
     simp only at p
     by_cases e : small (i.length + j.length) = true
     ·rw [if_pos e] at p
      exact .inl (.inl (.inr ⟨i, j, rfl, rfl, sl e, post_fin r p (.str (strOk_app k1 k2))⟩))
     ·rw [if_neg e] at p; exact p.elim
  | _ => exact p.elim
 | fl xs =>
  cases w with
  | fl ys =>
   unfold kAdd at p
   simp only at p
   by_cases e : small (xs.length + ys.length) = true
   ·rw [if_pos e] at p
    obtain ⟨a, us, rfl, q1, y1⟩ := rv_list hK xv
    obtain ⟨b, us2, rfl, q2, y2⟩ := rv_list hK xw
    exact .inl (.inr ⟨a, b, us, us2, rfl, rfl, q1, q2, by rw [← y1.length, ← y2.length]; exact sl e, post_lst r p (RVs.append y1 y2)⟩)
   ·rw [if_neg e] at p; exact p.elim
  | _ => exact p.elim
 | tup xs =>
  cases w with
  | tup ys =>
   unfold kAdd at p
   simp only at p
   by_cases e : (small (xs.length + ys.length) && !xs.isEmpty) = true
   ·rw [if_pos e] at p
    rw [Bool.and_eq_true] at e
    obtain ⟨a, us, rfl, q1, y1⟩ := rv_tup hK xv
    obtain ⟨b, us2, rfl, q2, y2⟩ := rv_tup hK xw
    refine .inr ⟨a, b, us, us2, rfl, rfl, q1, q2, fun z => ?_, by rw [← y1.length, ← y2.length]; exact sl e.1, fun z => ?_, fun _ => post_tup r p (RVs.append y1 y2)⟩
    ·have := y1.nil_iff.mp z
     rw [this] at e
     exact absurd e.2 (by simp)
    ·have h2 := y2.nil_iff.mp z
     subst h2
     rw [List.append_nil] at p
     exact post_fin r p xv
   ·rw [if_neg e] at p; exact p.elim
  | _ => exact p.elim
 | _ => cases w <;> exact p.elim
theorem ao_sub : AO2 G kSub (rI0 fun i j => .int (i - j)) := fun c v w u x Q r xv xw p => by
 cases v with
 | int i =>
  cases w with
  | int j => cases xv; cases xw; exact ⟨i, j, rfl, rfl, post_fin r p .int⟩
  | _ => exact p.elim
 | _ => cases w <;> exact p.elim
def rMulA : R2 := fun x y H Q => (rI CMul (fun i j => .int (i * j)) x y H Q) ∨ (∃ z n, x = .str z ∧ y = .int n ∧ MulOk z n ∧ Q (.str (Txt.mul z n)) H)
theorem op_mulA : OpR X (binaryOp .Mult) rMulA := by
 refine OpR.or op_mul ?_
 intro pins s σ H x y v u Q I rx ry h
 obtain ⟨z, n, rfl, rfl, ok, q⟩ := h
 obtain ⟨t, rfl⟩ := rx
 obtain ⟨t', rfl⟩ := ry
 exact SB.mul ok fun t2 k => ⟨.str _, H, I.tok _, ⟨_, rfl⟩, q⟩
theorem strOk_mul {x : Str} {n : Int} (h1 : PyData.strOk x = true) : PyData.strOk (Txt.mul x n) = true := by
 unfold Txt.mul
 split
 ·decide +kernel
 ·split
  ·exact h1
  ·generalize n.toNat = k
   have key : ∀ (k : Nat) (acc : Array Nat), acc.all (· < 0x110000) = true → ((List.replicate k x.cps).foldl (· ++ ·) acc).all (· < 0x110000) = true := by
    intro k
    induction k with
    | zero => intro acc h; exact h
    | succ k ih =>
     intro acc h
     rw [List.replicate_succ, List.foldl_cons]
     exact ih _ (by rw [Array.all_append, h]; exact h1)
   exact key k #[] (by simp)
theorem ao_mul : AO2 G kMul rMulA := fun c v w u x Q r xv xw p => by
 cases v with
 | int i =>
  cases w with
  | int j =>
   cases xv; cases xw
   unfold kMul at p
   simp only at p
   by_cases e : mulOk i j = true
   ·rw [if_pos e] at p
    have e' := of_decide_eq_true e
    exact .inl ⟨i, j, rfl, rfl, by unfold CMul; omega, post_fin r p .int⟩
   ·rw [if_neg e] at p; exact p.elim
  | _ => exact p.elim
 | str z =>
  cases w with
  | int n =>
   cases xv with
   | str k =>
    cases xw
    unfold kMul at p
    simp only at p
    by_cases e : decide (0 ≤ n ∧ n ≤ 10000 ∧ z.length ≤ 1000) = true
    ·rw [if_pos e] at p
     have e' := of_decide_eq_true e
     exact .inr ⟨z, n, rfl, rfl, mulOk_of 1000 10000 e'.2.2 e'.2.1 (by omega) (by decide) (by decide), post_fin r p (.str (strOk_mul k))⟩
    ·rw [if_neg e] at p; exact p.elim
  | _ => exact p.elim
 | _ => cases w <;> exact p.elim
theorem ao_fdiv : AO2 G kFdiv (rI CDivW fun i j => .int (i / j)) := fun c v w u x Q r xv xw p => by
 cases v with
 | int i =>
  cases w with
  | int j =>
   cases xv; cases xw
   unfold kFdiv at p
   simp only at p
   by_cases e : decide (0 < j ∧ j < 10 ^ 60) = true
   ·rw [if_pos e] at p
    have e' := of_decide_eq_true e
    refine ⟨i, j, rfl, rfl, wide_div (b := 200) e'.1 ?_ (by decide) (by decide), post_fin r p .int⟩
    have h2 : j < 2 ^ 200 := Int.lt_trans e'.2 (by decide)
    omega
   ·rw [if_neg e] at p; exact p.elim
  | _ => exact p.elim
 | _ => cases w <;> exact p.elim
theorem ao_mod : AO2 G kMod (rI (fun _ j => 0 < j) fun i j => .int (i % j)) := fun c v w u x Q r xv xw p => by
 cases v with
 | int i =>
  cases w with
  | int j =>
   cases xv; cases xw
   unfold kMod at p
   simp only at p
   by_cases e : decide (0 < j) = true
   ·rw [if_pos e] at p
    exact ⟨i, j, rfl, rfl, of_decide_eq_true e, post_fin r p .int⟩
   ·rw [if_neg e] at p; exact p.elim
  | _ => exact p.elim
 | _ => cases w <;> exact p.elim
theorem ao_pow : AO2 G kPow (rI CPow fun i j => .int (i ^ j.toNat)) := fun c v w u x Q r xv xw p => by
 cases v with
 | int i =>
  cases w with
  | int j =>
   cases xv; cases xw
   unfold kPow at p
   simp only at p
   by_cases e : decide (0 ≤ j ∧ j ≤ 1000000 ∧ -18446744073709551616 < i ∧ i < 18446744073709551616) = true
   ·rw [if_pos e] at p
    have e' := of_decide_eq_true e
    exact ⟨i, j, rfl, rfl, ⟨e'.1, e'.2.1, by omega⟩, post_fin r p .int⟩
   ·rw [if_neg e] at p; exact p.elim
  | _ => exact p.elim
 | _ => cases w <;> exact p.elim
theorem ao_neg : AO1 G kNeg (rU fun i => .int (-i)) := fun c v u Q r xv p => by
 cases v with
 | int i => cases xv; exact ⟨i, rfl, post_fin r p .int⟩
 | _ => exact p.elim
def dat : Nat → AV → Option PyData
 | _, .non => some .none
 | _, .bl b => some (.bool b)
 | _, .int i => some (.int i)
 | _, .str x => some (.str x)
 | n + 1, .tup xs => (xs.mapM (dat n)).map .tuple
 | n + 1, .fl xs => (xs.mapM (dat n)).map .list
 | _, _ => none
def kEq (v w : AV) (h : AH) : Option (AV × AH) := match dat 12 v, dat 12 w with
 | some d, some e => some (.bl (PyData.eqv d e), h)
 | _, _ => none
def kNe (v w : AV) (h : AH) : Option (AV × AH) := match dat 12 v, dat 12 w with
 | some d, some e => some (.bl (!PyData.eqv d e), h)
 | _, _ => none
theorem depthAll_le {n : Nat} : ∀ {ds : List PyData}, (∀ d, d ∈ ds → d.depth ≤ n) → PyData.depthAll ds ≤ n
 | [], _ => by simp [PyData.depthAll]
 | d :: ds, h => by
  have h1 := h d (by simp)
  have h2 := depthAll_le (ds := ds) fun x hx => h x (by simp [hx])
  simp only [PyData.depthAll]
  omega
theorem canAll {ds : List PyData} : (∀ d, d ∈ ds → PyData.canLay0 d = true) → PyData.canLayAll0 ds = true := by
 induction ds with
 | nil => intro _; rfl
 | cons d ds ih => intro h; simp [PyData.canLayAll0, h d (by simp), ih fun x hx => h x (by simp [hx])]
theorem dat_ok (hK : X.K = G.K) : ∀ (n : Nat) (v : AV) (u : V) (d : PyData), dat n v = some d → RV G c v u → Dp X.K c.H u d ∧ PyData.canLay0 d = true ∧ d.depth ≤ n := by
 intro n
 have leaf : ∀ (n : Nat) (v : AV) (u : V) (d : PyData), (∀ xs, v ≠ .tup xs) → (∀ xs, v ≠ .fl xs) → dat n v = some d → RV G c v u → Dp X.K c.H u d ∧ PyData.canLay0 d = true ∧ d.depth ≤ n := by
  intro n v u d h1 h2 e x
  cases x with
  | non => cases n <;> (simp only [dat] at e; cases e; exact ⟨.non, rfl, Nat.zero_le _⟩)
  | bl => cases n <;> (simp only [dat] at e; cases e; exact ⟨.bl _, rfl, Nat.zero_le _⟩)
  | int => cases n <;> (simp only [dat] at e; cases e; exact ⟨.int _, rfl, Nat.zero_le _⟩)
  | str k => cases n <;> (simp only [dat] at e; cases e; exact ⟨.str _, k, Nat.zero_le _⟩)
  | tup => exact absurd rfl (h1 _)
  | tupK => exact absurd rfl (h1 _)
  | fl => exact absurd rfl (h2 _)
  | flK => exact absurd rfl (h2 _)
  | _ => cases n <;> (simp only [dat] at e; cases e)
 induction n with
 | zero =>
  intro v u d e x
  refine leaf 0 v u d (fun xs h => ?_) (fun xs h => ?_) e x
  ·subst h; simp only [dat] at e; cases e
  ·subst h; simp only [dat] at e; cases e
 | succ n ih =>
  have all : ∀ (xs : List AV) (us : List V) (ds : List PyData), xs.mapM (dat n) = some ds → RVs G c xs us → DpAll X.K c.H us ds ∧ ∀ d, d ∈ ds → PyData.canLay0 d = true ∧ d.depth ≤ n := by
   intro xs
   induction xs with
   | nil => intro us ds e x; cases x; simp at e; subst e; exact ⟨.nil, fun d h => by simp at h⟩
   | cons y ys ihx =>
    intro us ds e x
    cases x with
    | cons x xr =>
     simp only [List.mapM_cons] at e
     cases q : dat n y with
     | none => rw [q] at e; cases e
     | some d =>
      rw [q] at e
      cases q2 : ys.mapM (dat n) with
      | none => rw [q2] at e; cases e
      | some ds2 =>
       rw [q2] at e
       cases e
       obtain ⟨a1, a2, a3⟩ := ih _ _ _ q x
       obtain ⟨b1, b2⟩ := ihx _ _ q2 xr
       exact ⟨.cons a1 b1, fun d' h => by rcases List.mem_cons.mp h with h | h; (rw [h]; exact ⟨a2, a3⟩); exact b2 d' h⟩
  intro v u d e x
  have seqs : ∀ {xs : List AV} {us : List V} {mk : List PyData → PyData} {ds : List PyData}, xs.mapM (dat n) = some ds → RVs G c xs us → DpAll X.K c.H us ds ∧ PyData.canLayAll0 ds = true ∧ PyData.depthAll ds ≤ n := fun {xs us mk ds} e x => by
   obtain ⟨a1, a2⟩ := all xs us ds e x
   exact ⟨a1, canAll fun d h => (a2 d h).1, depthAll_le fun d h => (a2 d h).2⟩
  cases v with
  | tup xs =>
   simp only [dat] at e
   cases q : xs.mapM (dat n) with
   | none => rw [q] at e; cases e
   | some ds =>
    rw [q] at e
    cases e
    obtain ⟨a, us, rfl, q1, y⟩ := rv_tup hK x
    obtain ⟨a1, a2, a3⟩ := seqs (mk := .tuple) q y
    exact ⟨.tup q1 a1, by simpa [PyData.canLay0] using a2, by simp only [PyData.depth]; omega⟩
  | fl xs =>
   simp only [dat] at e
   cases q : xs.mapM (dat n) with
   | none => rw [q] at e; cases e
   | some ds =>
    rw [q] at e
    cases e
    obtain ⟨a, us, rfl, q1, y⟩ := rv_list hK x
    obtain ⟨a1, a2, a3⟩ := seqs (mk := .list) q y
    exact ⟨.lst q1 a1, by simpa [PyData.canLay0] using a2, by simp only [PyData.depth]; omega⟩
  | _ => exact leaf (n + 1) _ u d (fun xs h => by cases h) (fun xs h => by cases h) e x
theorem shaped_of {d : PyData} {n : Nat} (h1 : PyData.canLay0 d = true) (h2 : d.depth ≤ n) (hn : n ≤ 64 := by decide) : SeqAt.shaped d = true := by
  unfold SeqAt.shaped
  rw [h1, Bool.true_and]
  exact decide_eq_true (Nat.le_trans h2 hn)
theorem ao_eq (hK : X.K = G.K) : AO2 G kEq (rEqD X.K) := fun c v w u x Q r xv xw p => by
 unfold kEq at p
 cases e1 : dat 12 v with
 | none => rw [e1] at p; exact p.elim
 | some d =>
  cases e2 : dat 12 w with
  | none => rw [e1, e2] at p; exact p.elim
  | some e =>
   rw [e1, e2] at p
   obtain ⟨a1, a2, a3⟩ := dat_ok hK 12 v u d e1 xv
   obtain ⟨b1, b2, b3⟩ := dat_ok hK 12 w x e e2 xw
   exact ⟨d, e, a1, b1, shaped_of a2 a3, shaped_of b2 b3, post_fin r p .bl⟩
theorem ao_ne (hK : X.K = G.K) : AO2 G kNe (rNeD X.K) := fun c v w u x Q r xv xw p => by
 unfold kNe at p
 cases e1 : dat 12 v with
 | none => rw [e1] at p; exact p.elim
 | some d =>
  cases e2 : dat 12 w with
  | none => rw [e1, e2] at p; exact p.elim
  | some e =>
   rw [e1, e2] at p
   obtain ⟨a1, a2, a3⟩ := dat_ok hK 12 v u d e1 xv
   obtain ⟨b1, b2, b3⟩ := dat_ok hK 12 w x e e2 xw
   exact ⟨d, e, a1, b1, shaped_of a2 a3, shaped_of b2 b3, post_fin r p .bl⟩
def kCmp (f : Int → Int → Bool) (v w : AV) (h : AH) : Option (AV × AH) := match v, w with
 | .int i, .int j => some (.bl (f i j), h)
 | _, _ => none
def kLt := kCmp fun i j => decide (i < j)
def kLe := kCmp fun i j => decide (i ≤ j)
def kGt := kCmp fun i j => decide (j < i)
def kGe := kCmp fun i j => decide (j ≤ i)
theorem ao_cmp (f : Int → Int → Bool) : AO2 G (kCmp f) (rI0 fun i j => .bl (f i j)) := fun c v w u x Q r xv xw p => by
 cases v with
 | int i =>
  cases w with
  | int j => cases xv; cases xw; exact ⟨i, j, rfl, rfl, post_fin r p .bl⟩
  | _ => exact p.elim
 | _ => cases w <;> exact p.elim
def isNone : AV → Bool
 | .non => true
 | _ => false
def kIsN (v w : AV) (h : AH) : Option (AV × AH) := match w with
 | .non => some (.bl (isNone v), h)
 | _ => none
def kNotN (v w : AV) (h : AH) : Option (AV × AH) := match w with
 | .non => some (.bl (!isNone v), h)
 | _ => none
theorem isNone_rv {v : AV} {u : V} (x : RV G c v u) : decide (u = .non) = isNone v := by
 cases x <;> simp [isNone]
theorem ao_isN : AO2 G kIsN (fun x y H Q => y = .non ∧ Q (.bl (decide (x = .non))) H) := fun c v w u x Q r xv xw p => by
 cases w with
 | non => cases xw; exact ⟨rfl, by rw [isNone_rv xv]; exact post_fin r p .bl⟩
 | _ => exact p.elim
theorem ao_notN : AO2 G kNotN (fun x y H Q => y = .non ∧ Q (.bl (!decide (x = .non))) H) := fun c v w u x Q r xv xw p => by
 cases w with
 | non => cases xw; exact ⟨rfl, by rw [isNone_rv xv]; exact post_fin r p .bl⟩
 | _ => exact p.elim
end
def eqA : AV → AV → Bool
 | .non, .non => true
 | .bl a, .bl b => a == b
 | .bl a, .int b => (if a then 1 else 0) == b
 | .int a, .bl b => a == (if b then 1 else 0)
 | .int a, .int b => a == b
 | .str a, .str b => a == b
 | _, _ => false
def inA (v : AV) (xs : List AV) : Bool := xs.any fun y => eqA y v
def kInB (neg : Bool) (v w : AV) (h : AH) : Option (AV × AH) := match seqOf w with
 | some xs => if flatA v && xs.all flatA then some (.bl (if neg then !inA v xs else inA v xs), h) else none
 | none => none
def kIn := kInB false
def kInS (neg : Bool) (v w : AV) (h : AH) : Option (AV × AH) := match v, w with
  | .str x, .str z => match x.cps.toList with
    | [k] => some (.bl (if neg then !decide (k ∈ z.cps.toList) else decide (k ∈ z.cps.toList)), h)
    | _ => none
  | _, _ => none
def kLen (vs : List AV) (h : AH) : Option (AV × AH) := match vs with
  | [.tup xs] => some (.int xs.length, h)
  | [.fl xs] => some (.int xs.length, h)
  | [.str x] => if strS x.length then some (.int x.length, h) else none
  | [.ref n] => match h[n]? with
    | some (some (.lst xs)) => some (.int xs.length, h)
    | _ => none
  | _ => none
def kIx (v w : AV) (h : AH) : Option (AV × AH) := match v, w with
  | .tup xs, .int i => (atI xs i).map fun v => (v, h)
  | .fl xs, .int i => (atI xs i).map fun v => (v, h)
  | .ref n, .int i => match h[n]? with
    | some (some (.lst xs)) => (atI xs i).map fun v => (v, h)
    | _ => none
  | .str z, .int i => if strS z.length then (atI z.cps.toList i).map fun k => (.str ⟨#[k]⟩, h) else none
  | _, _ => none
def kInt (vs : List AV) (h : AH) : Option (AV × AH) := match vs with
 | [.int i] => some (.int i, h)
 | _ => none
def kAbs (vs : List AV) (h : AH) : Option (AV × AH) := match vs with
 | [.int i] => some (.int (if i < 0 then -i else i), h)
 | _ => none
def kMax2 (vs : List AV) (h : AH) : Option (AV × AH) := match vs with
 | [.int i, .int j] => some (.int (if j > i then j else i), h)
 | _ => none
def kMin2 (vs : List AV) (h : AH) : Option (AV × AH) := match vs with
 | [.int i, .int j] => some (.int (if j < i then j else i), h)
 | _ => none
section
variable {G : Gx} {X : Cx} {c c' : Cfg}
theorem flatA_rv {v : AV} {u : V} (x : RV G c v u) (f : flatA v = true) : flatV u = true := by
 cases x <;> first | rfl | cases f
theorem eqA_rv {v w : AV} {u x : V} (xv : RV G c v u) (xw : RV G c w x) (fv : flatA v = true) (fw : flatA w = true) : eqV u x = eqA v w := by
 cases xv with
 | non => cases xw <;> first | rfl | cases fw
 | bl => cases xw <;> first | rfl | cases fw
 | int => cases xw <;> first | rfl | cases fw
 | str => cases xw <;> first | rfl | cases fw
 | _ => cases fv
theorem inA_rv {v : AV} {u : V} (xv : RV G c v u) (fv : flatA v = true) : ∀ {xs : List AV} {us : List V}, RVs G c xs us → xs.all flatA = true → us.all flatV = true ∧ inV u us = inA v xs
 | _, _, .nil, _ => ⟨rfl, rfl⟩
 | _, _, .cons r t, f => by
  rw [List.all_cons, Bool.and_eq_true] at f
  obtain ⟨a, b⟩ := inA_rv xv fv t f.2
  refine ⟨by rw [List.all_cons, a, flatA_rv r f.1]; rfl, ?_⟩
  unfold inV inA at *
  rw [List.any_cons, List.any_cons, b, eqA_rv r xv f.1 fv]
theorem ao_inB (hK : X.K = G.K) (neg : Bool) : AO2 G (kInB neg) (rIn X.K neg) := fun c v w u x Q r xv xw p => by
 unfold kInB at p
 have go : ∀ {xs : List AV} {a : Addr} {us : List V}, RVs G c xs us → x = .ref a → (SqL X.K c.H a us ∨ SqT X.K c.H a us) → PostO G c Q (if (flatA v && xs.all flatA) = true then some (.bl (if neg then !inA v xs else inA v xs), c.h) else none) → rIn X.K neg u x c.H Q := fun {xs a us} y e h p => by
  by_cases e1 : (flatA v && xs.all flatA) = true
  ·rw [if_pos e1] at p
   rw [Bool.and_eq_true] at e1
   obtain ⟨a1, a2⟩ := inA_rv xv e1.1 y e1.2
   exact ⟨a, us, e, h, flatA_rv xv e1.1, a1, by rw [a2]; exact post_fin r p .bl⟩
  ·rw [if_neg e1] at p; exact p.elim
 cases w with
 | tup xs =>
  obtain ⟨a, us, rfl, q, y⟩ := rv_tup hK xw
  exact go y rfl (.inr q) p
 | fl xs =>
  obtain ⟨a, us, rfl, q, y⟩ := rv_list hK xw
  exact go y rfl (.inl q) p
 | _ => exact p.elim
def rInS (neg : Bool) : R2 := fun x y H Q => ∃ (k : Nat) (z : Str), x = .str ⟨#[k]⟩ ∧ y = .str z ∧ Q (.bl (if neg then !decide (k ∈ z.cps.toList) else decide (k ∈ z.cps.toList))) H
theorem op_notInS : OpR X (compareOp .NotIn) (rInS true) := op_notIn_sign
theorem ao_inS (neg : Bool) : AO2 G (kInS neg) (rInS neg) := fun c v w u x Q r xv xw p => by
 cases v with
 | str y =>
  cases w with
  | str z =>
   cases xv; cases xw
   unfold kInS at p
   simp only at p
   split at p
   ·rename_i k e
    refine ⟨k, z, ?_, rfl, post_fin r p .bl⟩
    have : y = ⟨#[k]⟩ := by
     obtain ⟨⟨l⟩⟩ := y
     simp at e
     rw [e]
    rw [this]
   ·exact p.elim
  | _ => exact p.elim
 | _ => cases w <;> exact p.elim
theorem lst_at {n : Nat} {xs : List AV} (r : Rel G c) (q : c.h[n]? = some (some (.lst xs))) : ∃ us, c.H (c.rho n) = some (.lst us) ∧ RVs G c xs us := r.obj n _ q
theorem ao_len (hK : X.K = G.K) : AOL G kLen (fun xs H Q => ∃ x n, xs = [x] ∧ LenV X.K x H n ∧ Q (.int n) H) := fun c v us Q r x p => by
 unfold kLen at p
 split at p
 ·rename_i xs
  cases x with
  | cons x t =>
   cases t
   obtain ⟨a, us, rfl, q, y⟩ := rv_tup hK x
   exact ⟨_, xs.length, rfl, .inr ⟨us, q, y.length⟩, post_fin r p .int⟩
 ·rename_i xs
  cases x with
  | cons x t =>
   cases t
   obtain ⟨a, us, rfl, q, y⟩ := rv_list hK x
   exact ⟨_, xs.length, rfl, .inl ⟨us, q, y.length⟩, post_fin r p .int⟩
 ·rename_i z
  cases x with
  | cons x t =>
   cases t
   cases x
   by_cases e : strS z.length = true
   ·rw [if_pos e] at p
    exact ⟨_, z.length, rfl, ⟨small_le e, rfl⟩, post_fin r p .int⟩
   ·rw [if_neg e] at p; exact p.elim
 ·rename_i n
  cases x with
  | cons x t =>
   cases t
   cases x
   split at p
   ·rename_i xs q
    obtain ⟨us, q1, y⟩ := lst_at r q
    exact ⟨_, xs.length, rfl, .inl ⟨us, .inl (.inl q1), y.length⟩, post_fin r p .int⟩
   ·exact p.elim
 ·exact p.elim
theorem RVs.nth : ∀ {xs : List AV} {us : List V} {i : Nat} {v : AV}, RVs G c xs us → xs[i]? = some v → ∃ u, us[i]? = some u ∧ RV G c v u
 | _, _, 0, _, .cons r _, e => by simp at e; subst e; exact ⟨_, rfl, r⟩
 | _, _, i + 1, v, .cons _ t, e => by
  obtain ⟨u, h1, h2⟩ := RVs.nth (i := i) (v := v) t (by simpa using e)
  exact ⟨u, by simpa using h1, h2⟩
theorem RVs.atI {xs : List AV} {us : List V} {i : Int} {v : AV} (r : RVs G c xs us) (e : L2.atI xs i = some v) : ∃ u, L2.atI us i = some u ∧ RV G c v u := by
 unfold L2.atI at *
 rw [← r.length]
 cases q : ixN xs.length i with
 | none => rw [q] at e; cases e
 | some j =>
  rw [q] at e
  obtain ⟨u, h1, h2⟩ := r.nth e
  exact ⟨u, h1, h2⟩
theorem atI_mem {α : Type} {xs : List α} {i : Int} {v : α} (e : L2.atI xs i = some v) : v ∈ xs := by
 unfold L2.atI at e
 cases q : ixN xs.length i with
 | none => rw [q] at e; cases e
 | some j =>
  rw [q] at e
  exact List.mem_of_getElem? e
theorem strOk_one {z : Str} {k : Nat} (h : PyData.strOk z = true) (e : k ∈ z.cps.toList) : PyData.strOk ⟨#[k]⟩ = true := by
 unfold PyData.strOk at *
 rw [Array.all_eq_true'] at h
 have := h k (by simpa using e)
 simpa using this
theorem ao_ix (hK : X.K = G.K) : AO2 G kIx (rIx X.K) := fun c v w u x Q r xv xw p => by
 cases w with
 | int i =>
  cases xw
  cases v with
  | tup xs =>
   unfold kIx at p
   simp only at p
   obtain ⟨a, us, rfl, q, y⟩ := rv_tup hK xv
   cases e : atI xs i with
   | none => rw [e] at p; exact p.elim
   | some z =>
    rw [e] at p
    obtain ⟨u, e2, y2⟩ := y.atI e
    exact .inr (.inl ⟨a, us, i, u, rfl, rfl, q, e2, post_fin r p y2⟩)
  | fl xs =>
   unfold kIx at p
   simp only at p
   obtain ⟨a, us, rfl, q, y⟩ := rv_list hK xv
   cases e : atI xs i with
   | none => rw [e] at p; exact p.elim
   | some z =>
    rw [e] at p
    obtain ⟨u, e2, y2⟩ := y.atI e
    exact .inl ⟨a, us, i, u, rfl, rfl, q, e2, post_fin r p y2⟩
  | ref n =>
   cases xv
   unfold kIx at p
   simp only at p
   split at p
   ·rename_i xs q
    obtain ⟨us, q1, y⟩ := lst_at r q
    cases e : atI xs i with
    | none => rw [e] at p; exact p.elim
    | some z =>
     rw [e] at p
     obtain ⟨u, e2, y2⟩ := y.atI e
     exact .inl ⟨_, us, i, u, rfl, rfl, .inl (.inl q1), e2, post_fin r p y2⟩
   ·exact p.elim
  | str z =>
   cases xv with
   | str k =>
    unfold kIx at p
    simp only at p
    by_cases e : strS z.length = true
    ·rw [if_pos e] at p
     cases e2 : atI z.cps.toList i with
     | none => rw [e2] at p; exact p.elim
     | some d =>
      rw [e2] at p
      exact .inr (.inr ⟨z, i, d, rfl, rfl, small_le e, e2, post_fin r p (.str (strOk_one k (atI_mem e2)))⟩)
    ·rw [if_neg e] at p; exact p.elim
  | _ => exact p.elim
 | _ => cases v <;> exact p.elim
theorem ao_int : AOL G kInt (fun xs H Q => (∃ i, xs = [.int i] ∧ Q (.int i) H) ∨ ∃ k, xs = [.bl k] ∧ Q (.int (if k then 1 else 0)) H) := fun c v us Q r x p => by
 unfold kInt at p
 split at p
 ·rename_i i
  cases x with
  | cons x t => cases t; cases x; exact .inl ⟨i, rfl, post_fin r p .int⟩
 ·exact p.elim
theorem ao_abs : AOL G kAbs (fun xs H Q => ∃ i, xs = [.int i] ∧ Q (.int (if i < 0 then -i else i)) H) := fun c v us Q r x p => by
 unfold kAbs at p
 split at p
 ·rename_i i
  cases x with
  | cons x t => cases t; cases x; exact ⟨i, rfl, post_fin r p .int⟩
 ·exact p.elim
theorem ao_max2 : AOL G kMax2 (fun xs H Q => ∃ i j, xs = [.int i, .int j] ∧ Q (.int (if j > i then j else i)) H) := fun c v us Q r x p => by
 unfold kMax2 at p
 split at p
 ·rename_i i j
  cases x with
  | cons x t =>
   cases t with
   | cons y t => cases t; cases x; cases y; exact ⟨i, j, rfl, post_fin r p .int⟩
 ·exact p.elim
theorem ao_min2 : AOL G kMin2 (fun xs H Q => ∃ i j, xs = [.int i, .int j] ∧ Q (.int (if j < i then j else i)) H) := fun c v us Q r x p => by
 unfold kMin2 at p
 split at p
 ·rename_i i j
  cases x with
  | cons x t =>
   cases t with
   | cons y t => cases t; cases x; cases y; exact ⟨i, j, rfl, post_fin r p .int⟩
 ·exact p.elim
inductive AT where
 | ty (n : String) | own (k : Nat)
def Gx.tv (G : Gx) : AT → Value
 | .ty n => .type n
 | .own k => .ref (G.ca k)
def typA (v : AV) (h : AH) : Option AT := match v with
  | .non => some (.ty "NoneType")
  | .bl _ => some (.ty "bool")
  | .int _ => some (.ty "int")
  | .str _ => some (.ty "str")
  | .tup _ => some (.ty "tuple")
  | .fl _ => some (.ty "list")
  | .fd _ => some (.ty "dict")
  | .obj k _ => some (.own k)
  | .ref n => match h[n]? with
    | some (some (.lst _)) => some (.ty "list")
    | some (some (.dk _)) => some (.ty "dict")
    | some (some (.ins k _)) => some (.own k)
    | _ => none
  | _ => none
def clsA : AV → Option AT
 | .ty n => some (.ty n)
 | .cls k => some (.own k)
 | _ => none
def kIsi (kt : AT → AT → Option Bool) (vs : List AV) (h : AH) : Option (AV × AH) := match vs with
 | [v, k] => (typA v h).bind fun t => (clsA k).bind fun q => (kt q t).map fun b => (.bl b, h)
 | _ => none
structure InsOk (K : PySem.W.Frag) (C : Addr) : Prop where
 cl : Cls K C
 ha : PySem.W.findIn K (.ref C) "__class__" = some (some (.builtin "object.__class__"))
 hn : PySem.W.specialIn K (.builtin "object.__class__") "__get__" = some (some (.builtin "getset_descriptor.__get__"))
 htk : PySem.W.takesIn K (.builtin "object.__class__") = some true
 hm : PySem.W.mroIn K C (.type "object") = some true
structure KitOk (G : Gx) (K : PySem.W.Frag) (kt : AT → AT → Option Bool) : Prop where
 kit : ∀ q t b, kt q t = some b → PySem.W.kitOne K (G.tv t) (G.tv q) = some b
 ins : ∀ q k b, kt q (.own k) = some b → InsOk K (G.ca k)
theorem typ_rv (hK : X.K = G.K) {v : AV} {u : V} {t : AT} (r : Rel G c) (x : RV G c v u) (e : typA v c.h = some t) (hi : ∀ k, t = .own k → InsOk X.K (G.ca k)) : TyX X.K c.H u (G.tv t) := by
 cases x with
 | non => cases e; exact .base .non
 | bl => cases e; exact .base (.bl _)
 | int => cases e; exact .base (.int _)
 | str => cases e; exact .base (.str _)
 | tup q _ _ =>
  cases e
  rcases q with q | ⟨o, q⟩
  ·exact .base (.tup q)
  ·exact .fTuple q
 | tupK q _ => cases e; obtain ⟨o, its, n, h1, h2, _⟩ := q; exact .kTuple (by rw [hK]; exact h1) h2
 | fl q _ _ =>
  cases e
  rcases q with q | ⟨o, q⟩
  ·exact .base (.lst q)
  ·exact .base (.frz q)
 | flK q _ => cases e; obtain ⟨o, its, n, h1, h2, _⟩ := q; exact .kList (by rw [hK]; exact h1) h2
 | fd q _ _ =>
  cases e
  rcases q with q | ⟨o, q⟩
  ·exact .base (.dK q)
  ·exact .fDict q
 | obj q _ _ =>
  cases e
  have i := hi _ rfl
  exact .base (.ins q i.cl i.ha i.hn i.htk i.hm)
 | @ref n hn =>
  unfold typA at e
  simp only at e
  split at e
  ·rename_i xs q
   cases e
   obtain ⟨us, q1, _⟩ := r.obj n _ q
   exact .base (.lst q1)
  ·rename_i xs q
   cases e
   obtain ⟨us, q1, _⟩ := r.obj n _ q
   exact .base (.dK q1)
  ·rename_i k fs q
   cases e
   obtain ⟨dx, us, q1, _⟩ := r.obj n _ q
   have i := hi _ rfl
   exact .base (.ins q1 i.cl i.ha i.hn i.htk i.hm)
  ·cases e
 | _ => cases e
theorem cls_rv {v : AV} {u : V} {t : AT} (x : RV G c v u) (e : clsA v = some t) : ClsV u (G.tv t) := by
 cases x <;> first | (cases e; first | exact .ty _ | exact .own _) | cases e
theorem ao_isi (hK : X.K = G.K) {kt : AT → AT → Option Bool} (k : KitOk G X.K kt) : AOL G (kIsi kt) (rIsi X.K) := fun c v us Q r x p => by
 unfold kIsi at p
 split at p
 ·rename_i v w
  cases x with
  | cons x t =>
   cases t with
   | cons y t =>
    cases t
    cases e1 : typA v c.h with
    | none => rw [e1] at p; exact p.elim
    | some t =>
     cases e2 : clsA w with
     | none => rw [e1, e2] at p; exact p.elim
     | some q =>
      cases e3 : kt q t with
      | none => rw [e1, e2] at p; simp only [Option.bind, e3] at p; exact p.elim
      | some b =>
       rw [e1, e2] at p
       simp only [Option.bind, e3] at p
       exact ⟨_, _, _, _, b, rfl, cls_rv y e2, typ_rv hK r x e1 (fun k' e => by subst e; exact k.ins q k' b e3), k.kit q t b e3, post_fin r p .bl⟩
 ·exact p.elim
end
section
variable {G : Gx} {B : Bx} {W : WX} {X : Cx} {c c' : Cfg} {a : Expr} {m : ME} {pos p2 : Pos}
theorem RVs.drop : ∀ {xs : List AV} {us : List V} (n : Nat), RVs G c xs us → RVs G c (xs.drop n) (us.drop n)
 | _, _, 0, r => r
 | _, _, _ + 1, .nil => .nil
 | _, _, n + 1, .cons _ t => RVs.drop n t
theorem RVs.take : ∀ {xs : List AV} {us : List V} (n : Nat), RVs G c xs us → RVs G c (xs.take n) (us.take n)
 | _, _, 0, _ => .nil
 | _, _, _ + 1, .nil => .nil
 | _, _, n + 1, .cons r t => .cons r (RVs.take n t)
theorem strOk_cut {z : Str} {l u : Option Int} (k : PyData.strOk z = true) : PyData.strOk (cutS z l u) = true := by
 unfold PyData.strOk cutS at *
 rw [Array.all_eq_true'] at k
 rw [Array.all_eq_true']
 intro x hx
 simp only [List.mem_toArray] at hx
 exact k x (by have := List.mem_of_mem_drop (List.mem_of_mem_take hx); simpa using this)
abbrev MO := Option ME
def mO (o : MO) : AS → AH → Res (Option Int) := fun τ h => match o with
  | none => .ok none h
  | some l => (l τ h).bind fun w h => match w with
    | .int i => .ok (some i) h
    | _ => .stuck
inductive IO (G : Gx) (B : Bx) (W : WX) (X : Cx) : Option Expr → MO → Prop where
 | non : IO G B W X none none
 | som {e m} : IE G B W X e m → IO G B W X (some e) (some m)
def tOo (G : Gx) (B : Bx) (W : WX) (o : MO) : L2.St → Hp → (Option Int → Hp → Prop) → Prop := fun σ H Q => ∃ c τ L, c.H = H ∧ Rel G c ∧ RS G B c L τ σ ∧ Post G (fun _ (a b : Option Int) => a = b) c (fun k d H' => W k d σ H') Q (mO o τ c.h)
theorem PO.imp {e : Option Expr} {t t' : L2.St → Hp → (Option Int → Hp → Prop) → Prop} (h : PO X e t) (f : ∀ σ H Q, t' σ H Q → t σ H Q) : PO X e t' := ⟨fun pins s σ H Q I q => h.run pins s σ H Q I (f _ _ _ q)⟩
theorem IO.po {e : Option Expr} {o : MO} (h : IO G B W X e o) : PO X e (tOo G B W o) := by
 cases h with
 | non =>
  exact PO.imp po_none fun σ H Q ⟨c, τ, L, eH, r, s, p⟩ => by
   subst eH
   exact p c none (.refl r) rfl rfl
 | som h =>
  exact PO.imp (po_some h) fun σ H Q ⟨c, τ, L, eH, r, s, p⟩ => by
   refine ⟨c, τ, L, eH, r, s, (Post.bind (R := RV G) p).imp fun u H1 ⟨c1, v, e1, N1, x1, p1⟩ => ?_⟩
   subst e1
   cases x1 with
   | int => exact ⟨_, rfl, p1 c1 _ (.refl N1.rel) rfl rfl⟩
   | _ => exact p1.elim
def cutA (xs : List AV) (l u : Option Int) : List AV := (xs.drop (HT.sIx xs.length 0 l)).take (HT.sIx xs.length xs.length u - HT.sIx xs.length 0 l)
def kSl (v : AV) (l u : Option Int) (h : AH) : Option (AV × AH) := match v with
  | .fl xs => some (.fl (cutA xs l u), h)
  | .str z => if strS z.length then some (.str (cutS z l u), h) else none
  | .tup xs => if HT.sIx xs.length 0 l = 0 ∧ HT.sIx xs.length xs.length u = xs.length then none else some (.tup (cutA xs l u), h)
  | .ref n => match h[n]? with
    | some (some (.lst xs)) => some (.fl (cutA xs l u), h)
    | _ => none
  | _ => none
def mSl (m : ME) (lo hi : MO) : ME := fun τ h => (m τ h).bind fun v h => (mO lo τ h).bind fun l h => (mO hi τ h).bind fun u h => .of (kSl v l u h)
def rSlA (K : PySem.W.Frag) : V → Option Int → Option Int → Hp → VK → Prop := fun x lo hi H Q => (rSlL K x lo hi H Q ∨ rSlS x lo hi H Q) ∨ rSlT K x lo hi H Q
theorem sl_all : SlR X (rSlA X.K) := SlR.or (SlR.or sl_list sl_str) sl_tup
theorem cutA_rv {xs : List AV} {us : List V} {l u : Option Int} (r : RVs G c xs us) : RVs G c (cutA xs l u) (cutV us l u) := by
 unfold cutA cutV
 rw [r.length]
 exact (r.drop _).take _
theorem ao_sl (hK : X.K = G.K) {v : AV} {x : V} {l u : Option Int} {Q : VK} (r : Rel G c) (xv : RV G c v x) (p : PostO G c Q (kSl v l u c.h)) : rSlA X.K x l u c.H Q := by
 cases v with
 | fl xs =>
  obtain ⟨a, us, rfl, q, y⟩ := rv_list hK xv
  exact .inl (.inl ⟨a, us, rfl, q, post_lst r p (cutA_rv y)⟩)
 | str z =>
  cases xv with
  | str k =>
   unfold kSl at p
   simp only at p
   by_cases e : strS z.length = true
   ·rw [if_pos e] at p
    exact .inl (.inr ⟨z, rfl, small_le e, post_fin r p (.str (strOk_cut k))⟩)
   ·rw [if_neg e] at p; exact p.elim
 | tup xs =>
  obtain ⟨a, us, rfl, q, y⟩ := rv_tup hK xv
  unfold kSl at p
  simp only at p
  by_cases e : HT.sIx xs.length 0 l = 0 ∧ HT.sIx xs.length xs.length u = xs.length
  ·rw [if_pos e] at p; exact p.elim
  ·rw [if_neg e] at p
   exact .inr ⟨a, us, rfl, q, by rw [← y.length]; exact e, post_tup r p (cutA_rv y)⟩
 | ref n =>
  cases xv
  unfold kSl at p
  simp only at p
  split at p
  ·rename_i xs q
   obtain ⟨us, q1, y⟩ := lst_at r q
   exact .inl (.inl ⟨_, us, rfl, .inl (.inl q1), post_lst r p (cutA_rv y)⟩)
  ·exact p.elim
 | _ => exact p.elim
theorem ie_sl {lo hi : Option Expr} {ml mh : MO} (hK : X.K = G.K) (he : IE G B W X a m) (hl : IO G B W X lo ml) (hh : IO G B W X hi mh) : IE G B W X (.Subscript a (.Slice lo hi none p2) pos) (mSl m ml mh) := by
 refine PE.imp (pe_slice sl_all he hl.po hh.po) fun σ H Q ⟨c, τ, L, eH, r, s, p⟩ => ?_
 refine ⟨c, τ, L, eH, r, s, (Post.bind (R := RV G) p).imp fun x H1 ⟨c1, v, e1, N1, x1, p1⟩ => ?_⟩
 refine ⟨c1, τ, L, e1.symm, N1.rel, s.nxt N1, (Post.bind (R := fun _ (a b : Option Int) => a = b) p1).imp fun l H2 ⟨c2, l', e2, N2, x2, p2⟩ => ?_⟩
 refine ⟨c2, τ, L, e2.symm, N2.rel, (s.nxt N1).nxt N2, (Post.bind (R := fun _ (a b : Option Int) => a = b) p2).imp fun u H3 ⟨c3, u', e3, N3, x3, p3⟩ => ?_⟩
 subst e3
 subst x2
 subst x3
 exact ao_sl hK N3.rel ((x1.mono N2.mv).mono N3.mv) (PostO.of p3)
def mIt (k : AV → AH → Option (List AV)) (m : ME) : MA := fun τ h => (m τ h).bind fun v h => match k v h with
 | some vs => .ok vs h
 | none => .stuck
def itL (v : AV) (_ : AH) : Option (List AV) := match v with
 | .fl xs => some xs
 | _ => none
def itS (v : AV) (_ : AH) : Option (List AV) := match v with
 | .str z => some (z.cps.toList.map fun k => .str ⟨#[k]⟩)
 | _ => none
def enumA (xs : List AV) : List AV := (List.range xs.length).zipWith (fun i v => .tup [.int (i : Nat), v]) xs
def rngA (lo hi : Int) : List AV := (List.range (hi - lo).toNat).map fun i => .int (lo + (i : Nat))
theorem SqL.keep {a : Addr} {xs : List V} (N : Mv c c') (r : Rd c.H a (.lst xs)) (f : Frz c a) : Rd c'.H a (.lst xs) := (N.rd r f).1
theorem goes_list {a : Addr} {xs : List AV} {K : PySem.W.Frag} (hK : K = G.K) (x : RV G c (.fl xs) (.ref a)) : Goes G c (Itl K a) xs := by
 subst hK
 have hq : ∃ us, (∀ c', Mv c c' → SqL G.K c'.H a us) ∧ RVs G c xs us := by
  cases x with
  | fl r f y => exact ⟨_, fun c' M => .inl (M.rd r f).1, y⟩
  | flK k y => exact ⟨_, fun c' M => .inr k, y⟩
 obtain ⟨us, h1, y⟩ := hq
 refine ⟨fun H => SqL G.K H a us, YAt us, by rw [y.length]; exact walk_list, h1, fun c' i x H'' v M r e q => ?_⟩
 obtain ⟨rfl, q⟩ := q
 obtain ⟨u, e2, y2⟩ := y.nth e
 rw [e2] at q
 cases q
 exact ⟨.refl r, y2.mono M⟩
theorem goes_enum {a : Addr} {xs : List AV} {K : PySem.W.Frag} (hK : K = G.K) (x : RV G c (.fl xs) (.ref a)) : Goes G c (Ite K a) (enumA xs) := by
 subst hK
 have hq : ∃ us, (∀ c', Mv c c' → SqL G.K c'.H a us) ∧ RVs G c xs us := by
  cases x with
  | fl r f y => exact ⟨_, fun c' M => .inl (M.rd r f).1, y⟩
  | flK k y => exact ⟨_, fun c' M => .inr k, y⟩
 obtain ⟨us, h1, y⟩ := hq
 have hl : (enumA xs).length = us.length := by unfold enumA; simp [y.length]
 refine ⟨fun H => SqL G.K H a us, YPair (fun i => some (.int (i : Nat))) (fun i => us[i]?), by rw [hl]; exact walk_enum, h1, fun c' i x H'' v M r e q => ?_⟩
 obtain ⟨T, z, w, rfl, hT, rfl, e1, e2⟩ := q
 cases e1
 have e' : ∃ v0, xs[i]? = some v0 ∧ v = .tup [.int (i : Nat), v0] := by
  unfold enumA at e
  rw [List.getElem?_zipWith] at e
  cases hr : (List.range xs.length)[i]? with
  | none => rw [hr] at e; simp at e
  | some j =>
   cases hx : xs[i]? with
   | none => rw [hr, hx] at e; simp at e
   | some v0 =>
    rw [hr, hx] at e
    have : j = i := by
     have := List.getElem?_range (n := xs.length) (i := i)
     rw [List.getElem?_eq_some_iff] at hr
     obtain ⟨h3, h4⟩ := hr
     simpa using h4.symm
    subst this
    simp at e
    exact ⟨v0, rfl, e.symm⟩
 obtain ⟨v0, e3, rfl⟩ := e'
 obtain ⟨u, e4, y2⟩ := y.nth e3
 have e2' : us[i]? = some w := e2
 rw [e4] at e2'
 cases e2'
 have N := Nxt.temp (O := .tup [.int (i : Nat), w]) r hT
 exact ⟨N, .tup (.inl upd_same) (r.frz hT) (.cons .int (.cons ((y2.mono M).mono N.mv) .nil))⟩
theorem goes_range {lo : Int} {n : Nat} : Goes G c (Itr lo n) ((List.range n).map fun i => .int (lo + (i : Nat))) := by
 refine ⟨fun _ => True, YFn fun i => .int (lo + i), by simpa using walk_range, fun _ _ => trivial, fun c' i x H'' v M r e q => ?_⟩
 obtain ⟨rfl, rfl⟩ := q
 rw [List.getElem?_map] at e
 cases hr : (List.range n)[i]? with
 | none => rw [hr] at e; simp at e
 | some j =>
  rw [hr] at e
  have : j = i := by
   rw [List.getElem?_eq_some_iff] at hr
   obtain ⟨h3, h4⟩ := hr
   simpa using h4.symm
  subst this
  simp at e
  subst e
  exact ⟨.refl r, .int⟩
theorem goes_str {z : Str} (k : PyData.strOk z = true) : Goes G c (Its z) (z.cps.toList.map fun k => .str ⟨#[k]⟩) := by
 refine ⟨fun _ => True, fun i H v H' => H' = H ∧ ∃ c, z.cps[i]? = some c ∧ v = .str ⟨#[c]⟩, by simpa using walk_str, fun _ _ => trivial, fun c' i x H'' v M r e q => ?_⟩
 obtain ⟨rfl, d, q, rfl⟩ := q
 rw [List.getElem?_map, Array.getElem?_toList, q] at e
 simp at e
 subst e
 exact ⟨.refl r, .str (strOk_one k (by simpa using Array.mem_of_getElem? q))⟩
variable {tg e e2 : Expr} {ma : MA} {p pe : Pos}
theorem ii_list (hK : X.K = G.K) (he : IE G B W X e m) : II G B W X tg e (mIt itL m) := PI.imp (pi_list he) fun σ H R ⟨c, τ, L, eH, r, s, q⟩ => by
 refine ⟨c, τ, L, eH, r, s, (Post.bind (R := RV G) q).imp fun u H1 ⟨c1, v, e1, N1, x1, p1⟩ => ?_⟩
 subst e1
 cases v with
 | fl xs =>
  obtain ⟨a, us, rfl, q1, y⟩ := rv_list hK x1
  exact ⟨a, rfl, ⟨us, q1⟩, p1 c1 _ (.refl N1.rel) rfl (goes_list hK x1)⟩
 | _ => exact p1.elim
theorem ii_str (he : IE G B W X e m) : II G B W X tg e (mIt itS m) := PI.imp (pi_str he) fun σ H R ⟨c, τ, L, eH, r, s, q⟩ => by
 refine ⟨c, τ, L, eH, r, s, (Post.bind (R := RV G) q).imp fun u H1 ⟨c1, v, e1, N1, x1, p1⟩ => ?_⟩
 subst e1
 cases v with
 | str z =>
  cases x1 with
  | str k => exact ⟨z, rfl, p1 c1 _ (.refl N1.rel) rfl (goes_str k)⟩
 | _ => exact p1.elim
def rOk (i : Int) : Bool := decide (-4611686018427387904 ≤ i ∧ i < 4611686018427387904)
def mRng1 (ma : MA) : MA := fun τ h => (ma τ h).bind fun vs h => match vs with
 | [.int j] => if rOk j then .ok (rngA 0 j) h else .stuck
 | _ => .stuck
theorem rOk_of {i : Int} (h : rOk i = true) : -(2 ^ 62) ≤ i ∧ i < 2 ^ 62 := by
 have := of_decide_eq_true h
 omega
theorem ii_range1 (hm : X.mg "range" = none) (ha : IA G B W X [e] ma) (hg : Gl X "range" := by rfl) (hs : starEach [e] X.env = [(false, eval e X.env)] := by rfl) :
    II G B W X tg (.Call (.Name "range" p) [e] [] pos) (mRng1 ma) := PI.imp (pi_range1 hg hm ha hs) fun σ H R ⟨c, τ, L, eH, r, s, q⟩ => by
  refine ⟨c, τ, L, eH, r, s, (Post.bind (R := RVs G) q).imp fun u H1 ⟨c1, v, e1, N1, x1, p1⟩ => ?_⟩
  subst e1
  cases x1 with
  | nil => exact p1.elim
  | @cons y ys u1 us1 y1 t1 =>
    cases t1 with
    | cons _ _ => exact (by cases y <;> exact p1.elim)
    | nil =>
      cases y with
      | int j =>
        cases y1
        simp only at p1
        by_cases h : rOk j = true
        · rw [if_pos h] at p1
          obtain ⟨a1, a2⟩ := rOk_of h
          refine ⟨j, rfl, a1, a2, p1 c1 _ (.refl N1.rel) rfl ?_⟩
          have g := goes_range (G := G) (c := c1) (lo := 0) (n := j.toNat)
          unfold rngA
          rw [show (j - 0).toNat = j.toNat by simp]
          exact g
        · rw [if_neg h] at p1; exact p1.elim
      | _ => exact p1.elim
end
end PI
namespace PI
open PySem PySem.Spec PyProof.Rows L2 ClX
section
variable {X : Cx} {e : Expr}
theorem PE.any {ι : Type} {t : ι → TE} (h : ∀ i, PE X e (t i)) : PE X e (fun σ H Q => ∃ i, t i σ H Q) := ⟨fun pins s σ H Q I ⟨i, q⟩ => (h i).run pins s σ H Q I q⟩
end
section
variable {G : Gx} {B : Bx} {zs : Addr → Prop} {W : WX} {X : Cx} {c c' : Cfg} {L : List Addr} {τ : AS} {σ : SL} {pos pos' p : Pos} {e o : Expr} {es : List Expr} {m n mo : ME} {ma : MA} {mt : MT} {x s : Str} {i : Nat}
structure XfOk (G : Gx) (K : PySem.W.Frag) (f : Nat) (k : Nat) : Prop where
 xf : XfC K (G.ca k)
 no : PySem.W.findIn K (.ref (G.ca k)) (G.nm f) = some none
theorem ie_exf {a : Addr} {oe : Obj} {cls : Value} {d : Option Addr} {pn : List (Addr × Obj)} {ks : List Nat} {f : Nat} {fx : Str} {q1 : Pos} (i : Nat) (hz : Zc cls d oe) (hf : ∃ vs, oe.data = .fields vs) (hx : fx = G.nm f) (hks : ∀ k, k ∈ ks → XfOk G X.K f k)
  (hN : X.N[i]? = some s := by rfl) (hv : Vis X.env.scope s := by first | exact Or.inl rfl | exact Or.inr (Or.inl rfl)) (hd : (s == ("__debug__" : Str)) = false := by decide)
  (hcd : (s == ("__classdict__" : Str)) = false := by decide) (hb : attributeBase (.Name s q1) fx X.env (eval (.Name s q1) X.env) = eval (.Name s q1) X.env := by rfl) :
  IE G (B.exc a cls d) W (X.suite a ((a, oe) :: pn)) (.Attribute (.Name s q1) fx pos) (mExF ks i f) := by
 subst hx
 have key : ∀ k : { k // k ∈ ks }, PE (X.suite a ((a, oe) :: pn)) (.Attribute (.Name s q1) (G.nm f) pos) (tXf a cls d (G.ca k.1) (G.nm f) (tVar i)) := fun k =>
  pe_xf (hks k.1 k.2).xf (hks k.1 k.2).no hz hf (pv (X := X.suite a ((a, oe) :: pn)) i hN hv hd hcd) hb
 refine PE.imp (PE.any key) fun σ H Q ⟨c, τ, L, eH, r, s, p⟩ => ?_
 subst eH
 unfold mExF at p
 split at p
 ·rename_i k fs q
  by_cases hk : ks.contains k = true
  ·rw [if_pos hk] at p
   have hk' : k ∈ ks := by simpa using hk
   cases q2 : fs.lookup f with
   | none => rw [q2] at p; exact p.elim
   | some w =>
    rw [q2] at p
    simp only at p
    by_cases hp : plainV w = true
    ·rw [if_pos hp] at p
     obtain ⟨P, S, l, t, e1, e2, y, _⟩ := s.focus q
     cases y with
     | val q => cases q
     | mE rx =>
      obtain ⟨ec, rx⟩ := rx
      rcases rx with ⟨ef, _⟩ | ⟨dd, uf, ed, hdd, fz, xf⟩
      ·subst ef; cases q2
      ·obtain ⟨u2, e3, x2⟩ := xf.get q2
       exact ⟨⟨k, hk'⟩, _, e2, rfl, ec, dd, uf, u2, ed, hdd, e3, fin r x2 p⟩
    ·rw [if_neg hp] at p; exact p.elim
  ·rw [if_neg hk] at p; exact p.elim
 ·exact p.elim
def sSetIx (mo mi m : ME) : MS := fun τ h => (m τ h).bindS τ fun v h => (mo τ h).bindS τ fun w h => (mi τ h).bindS τ fun k h => match w, k with
  | .ref n, .int j => match h[n]? with
    | some (some (.lst xs)) => match ixN xs.length j with
      | some q => .nx τ (h.set n (some (.lst (xs.set q v))))
      | none => .stuck
    | _ => .stuck
  | _, _ => .stuck
theorem RVs.set : ∀ {xs : List AV} {us : List V} (j : Nat) {v : AV} {u : V}, RVs G c xs us → RV G c v u → RVs G c (xs.set j v) (us.set j u)
 | _, _, _, _, _, .nil, _ => .nil
 | _, _, 0, _, _, .cons _ t, x => .cons x t
 | _, _, j + 1, _, _, .cons r t, x => .cons r (RVs.set j t x)
theorem is_setix {a : Expr} {mi : ME} (he : IE G B W X e m) (ho : IE G B W X o mo) (hi : IE G B W X a mi) (hs : swapsWithSole [.Subscript o a pos'] e pos.line X.env = pure false := by rfl) (hw : swappedStores [.Subscript o a pos'] e X.env = pure none := by rfl)
    (h1 : (assignEach [.Subscript o a pos'] X.env).map (·.2) = [assign (.Subscript o a pos') X.env] := by rfl)
    (ht : ∀ v, assign (.Subscript o a pos') X.env v = (do
      let ov ← holding [v] (eval o X.env)
      let iv ← holding [v, ov] (eval a X.env)
      standAt pos'
      holding [v, ov, iv] (setItem ov iv v)
      release [v, ov, iv] []) := by intro _; rfl) : IS G B zs W X (.Assign [.Subscript o a pos'] e pos) (sSetIx mo mi m) := by
  refine PS.imp (ps_asg he (pg_sub ho hi set_list ht) hs hw h1) fun D σ H ⟨c, τ, L, eH, r, o, s, p⟩ => ?_
  refine ⟨c, τ, L, eH, r, s, (PostS.bindS (R := RV G) o s p).imp fun u H1 ⟨c1, v, e1, N1, x1, p1⟩ => ?_⟩
  refine ⟨c1, τ, L, e1, N1.rel, s.nxt N1, (PostS.bindS (R := RV G) (o.nxt N1) (s.nxt N1) p1).imp fun u2 H2 ⟨c2, w, e2, N2, x2, p2⟩ => ?_⟩
  refine ⟨c2, τ, L, e2, N2.rel, (s.nxt N1).nxt N2, (PostS.bindS (R := RV G) ((o.nxt N1).nxt N2) ((s.nxt N1).nxt N2) p2).imp fun u3 H3 ⟨c3, k, e3, N3, x3, p3⟩ => ?_⟩
  subst e3
  have x2' := x2.mono N3.mv
  cases x2' with
  | @ref n hn =>
    cases x3 with
    | @int j =>
      simp only at p3
      split at p3
      · rename_i xs q
        split at p3
        · rename_i jj q4
          obtain ⟨us, q1, y⟩ := lst_at N3.rel q
          have x1' := (x1.mono N2.mv).mono N3.mv
          have N4 := Nxt.write (o' := .lst (xs.set jj v)) (O := .lst (us.set jj u)) N3.rel q fun c4 M e4 => ⟨_, e4, (y.set jj x1').mono M⟩
          exact ⟨_, us, j, jj, rfl, rfl, q1, by rw [← y.length]; exact q4, p3 _ L σ (Stp.of N4 (((o.nxt N1).nxt N2).nxt N3)) rfl ((((s.nxt N1).nxt N2).nxt N3).nxt N4)⟩
        · exact p3.elim
      · exact p3.elim
    | _ => exact p3.elim
  | _ => cases x3 <;> exact p3.elim
def chT (k' : AV → AV → AH → Option (AV × AH)) (mc : ME) (τ : AS) (w t : AV) (h : AH) : Res AV := match t with
 | .bl true => (mc τ h).bind fun x h => .of (k' w x h)
 | .bl false => .ok (.bl false) h
 | _ => .stuck
def mChain (k k' : AV → AV → AH → Option (AV × AH)) (ma mb mc : ME) : ME := fun τ h => (ma τ h).bind fun v h => (mb τ h).bind fun w h => (Res.of (k v w h)).bind fun t h => chT k' mc τ w t h
theorem chain_ok {k k' : AV → AV → AH → Option (AV × AH)} {r r' : R2} {ma mb mc : ME} (hk : AO2 G k r) (hk' : AO2 G k' r') {σ : SL} {H : Hp} {Q : VK} (t : tI G B W (mChain k k' ma mb mc) σ H Q) : tChain r r' (tI G B W ma) (tI G B W mb) (tI G B W mc) σ H Q := by
 obtain ⟨c, τ, L, eH, rl, s, p⟩ := t
 refine ⟨c, τ, L, eH, rl, s, (Post.bind (R := RV G) p).imp fun u H1 ⟨c1, v, e1, N1, x1, p1⟩ => ?_⟩
 refine ⟨c1, τ, L, e1.symm, N1.rel, s.nxt N1, (Post.bind (R := RV G) p1).imp fun u2 H2 ⟨c2, w, e2, N2, x2, p2⟩ => ?_⟩
 subst e2
 refine hk c2 v w u u2 _ N2.rel (x1.mono N2.mv) x2 ?_
 cases q : k v w c2.h with
 | none => rw [q] at p2; exact p2.elim
 | some th =>
  obtain ⟨t, h3⟩ := th
  rw [q] at p2
  intro c3 u3 N3 e3 x3
  subst e3
  have p2' : Post G (RV G) c2 (fun k d H' => W k d σ H') Q (chT k' mc τ w t c3.h) := p2
  cases x3 with
  | @bl b =>
   refine ⟨b, rfl, ?_⟩
   cases b with
   | true =>
    rw [if_pos rfl]
    refine ⟨c3, τ, L, rfl, N3.rel, ((s.nxt N1).nxt N2).nxt N3, (Post.bind (R := RV G) (Post.trans N3 p2')).imp fun u4 H4 ⟨c4, y, e4, N4, x4, p4⟩ => ?_⟩
    subst e4
    exact hk' c4 w y u2 u4 Q N4.rel ((x2.mono N3.mv).mono N4.mv) x4 (PostO.of p4)
   | false =>
    rw [if_neg Bool.false_ne_true]
    exact fin N3.rel .bl (Post.trans N3 p2')
  | _ => exact p2'.elim
theorem ie_chain {op op' : CmpOp} {k k' : AV → AV → AH → Option (AV × AH)} {r r' : R2} {a b d : Expr} {ma mb mc : ME} (ho : OpR X (compareOp op) r) (hk : AO2 G k r) (ho' : OpR X (compareOp op') r') (hk' : AO2 G k' r') (ha : IE G B W X a ma) (hb : IE G B W X b mb) (hc : IE G B W X d mc)
  (hm : lastMarks [op, op'] [b, d] = false := by with_unfolding_all rfl) : IE G B W X (.Compare a [op, op'] [b, d] pos) (mChain k k' ma mb mc) :=
 PE.imp (pe_chain ho ho' ha hb hc hm) fun _ _ _ t => chain_ok hk hk' t
theorem it_chain {op op' : CmpOp} {k k' : AV → AV → AH → Option (AV × AH)} {r r' : R2} {a b d : Expr} {ma mb mc : ME} (ho : OpR X (compareOp op) r) (hk : AO2 G k r) (ho' : OpR X (compareOp op') r') (hk' : AO2 G k' r') (ha : IE G B W X a ma) (hb : IE G B W X b mb) (hc : IE G B W X d mc)
  (hm : lastMarks [op, op'] [b, d] = false := by with_unfolding_all rfl) : IT G B W X (.Compare a [op, op'] [b, d] pos) (mB (mChain k k' ma mb mc)) := by
 refine PT.imp (pt_chain ho ho' ha hb hc hm) fun σ H Q ⟨c, τ, L, eH, rl, s, p⟩ => ?_
 refine chain_ok hk hk' (Q := fun x H' => ∃ k, x = .bl k ∧ Q k H') ⟨c, τ, L, eH, rl, s, (Post.bind (R := RV G) p).imp fun u H1 ⟨c1, v, e1, N1, x1, p1⟩ => ?_⟩
 subst e1
 exact as_bool N1.rel x1 p1
def slook : List (Str × AV) → Str → Option AV
 | [], _ => none
 | (k, v) :: r, z => if k = z then some v else slook r z
structure KdOk (G : Gx) (K : PySem.W.Frag) (w : World) (d : Nat) (tb : List (Str × AV)) : Prop where
 ex : ∃ es n, KDict K w (G.da d) es n ∧ ∀ z, match slook tb z with
  | some v => ∃ u0 v0, PySem.W.nsIn K (G.da d) z = some (some u0) ∧ RelV v0 u0 ∧ GV G v v0
  | none => PySem.W.nsIn K (G.da d) z = some none
inductive KEs (G : Gx) : List DictEntry → List (Str × AV) → Prop where
 | nil : KEs G [] []
 | cons {d x t v v0 ds tb} : d.key = .str x t → RelV v0 d.val → GV G v v0 → KEs G ds tb → KEs G (d :: ds) ((x, v) :: tb)
structure ExcOk (K : PySem.W.Frag) (D : Addr) : Prop where
 hcl : (PySem.W.clsIn K D).isSome = true
 hg : PySem.W.findIn K (.ref D) "__getattribute__" = some (some (.builtin "BaseException.__getattribute__"))
 hk : PySem.W.findIn K (.ref D) "__getattr__" = some none
 hs : PySem.W.subIn K (.ref D) (.type "BaseException") = some true
 ha : PySem.W.findIn K (.ref D) "__class__" = some (some (.builtin "object.__class__"))
 hn : PySem.W.specialIn K (.builtin "object.__class__") "__get__" = some (some (.builtin "getset_descriptor.__get__"))
 ht : PySem.W.takesIn K (.builtin "object.__class__") = some true
 hm : PySem.W.mroIn K D (.type "object") = some true
structure KitX2 (G : Gx) (K : PySem.W.Frag) (kt : AT → AT → Option Bool) : Prop where
 kit : ∀ q k b, kt q (.own k) = some b → PySem.W.kitOne K (.ref (G.ca k)) (G.tv q) = some b
 exc : ∀ q k b, kt q (.own k) = some b → ExcOk K (G.ca k)
end
def mkNm (l : List Str) (i : Nat) : Str := match l[i]? with
 | some x => x
 | none => ⟨Array.replicate (i + 50) 0⟩
theorem mkNm_inj {l : List Str} (h : l.Nodup) (hl : ∀ x, x ∈ l → x.cps.size < 50) : ∀ i j, mkNm l i = mkNm l j → i = j := by
 intro i j e
 unfold mkNm at e
 cases q : l[i]? with
 | none =>
  cases q2 : l[j]? with
  | none =>
   rw [q, q2] at e
   simp only at e
   have e2 := congrArg (fun s : Str => s.cps.size) e
   simp at e2
   exact e2
  | some y =>
   rw [q, q2] at e
   simp only at e
   have := hl y (List.mem_of_getElem? q2)
   rw [← e] at this
   simp at this
   omega
 | some x =>
  cases q2 : l[j]? with
  | none =>
   rw [q, q2] at e
   simp only at e
   have := hl x (List.mem_of_getElem? q)
   rw [e] at this
   simp at this
   omega
  | some y =>
   rw [q, q2] at e
   simp only at e
   subst e
   exact (List.getElem?_inj (List.getElem?_eq_some_iff.mp q).1 h).mp (q.trans q2.symm)
def mkG (K : PySem.W.Frag) (cs fs ds : List Addr) (l : List Str) (h : l.Nodup) (hl : ∀ x, x ∈ l → x.cps.size < 50) (tb : List (Addr × Str) := []) : Gx :=
 ⟨K, fun k => cs.getD k 0, fun k => fs.getD k 0, fun k => ds.getD k 0, mkNm l, mkNm_inj h hl, tb⟩
theorem fa0 {P : Nat → Prop} : ∀ k, k ∈ ([] : List Nat) → P k := fun k h => by simp at h
theorem fa1 {P : Nat → Prop} {a : Nat} {l : List Nat} (x : P a) (h : ∀ k, k ∈ l → P k) : ∀ k, k ∈ a :: l → P k := fun k q => by
 rcases List.mem_cons.mp q with q | q
 ·rw [q]; exact x
 ·exact h k q
def ktT (n : String) : Bool := n = "NoneType" || n = "bool" || n = "int" || n = "str" || n = "tuple" || n = "list" || n = "dict"
def ktB (a n : String) : Option Bool := if a = n then some true else if a = "int" ∧ n = "bool" then some true else if ktT a = true ∧ ktT n = true then some false else none
theorem ktB_ok {K : PySem.W.Frag} {a n : String} {b : Bool} (ha : ktT a = true) (hn : ktT n = true) (e : ktB a n = some b) : PySem.W.kitOne K (.type n) (.type a) = some b := by
 unfold ktT at ha hn
 simp only [Bool.or_eq_true, decide_eq_true_eq] at ha hn
 rcases ha with (((((rfl | rfl) | rfl) | rfl) | rfl) | rfl) | rfl <;> rcases hn with (((((rfl | rfl) | rfl) | rfl) | rfl) | rfl) | rfl <;> (simp [ktB, ktT] at e; subst e; rfl)
def ktOf (f : Nat → Nat → Option Bool) (g : Nat → String → Option Bool) (h : String → Nat → Option Bool) : AT → AT → Option Bool
 | .ty a, .ty n => if ktT a && ktT n then ktB a n else none
 | .own k, .own j => f k j
 | .own k, .ty n => g k n
 | .ty a, .own j => h a j
theorem kit_all {G : Gx} {K : PySem.W.Frag} {f : Nat → Nat → Option Bool} {g : Nat → String → Option Bool} {h : String → Nat → Option Bool}
  (hf : ∀ k j b, f k j = some b → PySem.W.kitOne K (.ref (G.ca j)) (.ref (G.ca k)) = some b) (hg : ∀ k n b, g k n = some b → PySem.W.kitOne K (.type n) (.ref (G.ca k)) = some b)
  (hh : ∀ a j b, h a j = some b → PySem.W.kitOne K (.ref (G.ca j)) (.type a) = some b) :
  ∀ q t b, ktOf f g h q t = some b → PySem.W.kitOne K (G.tv t) (G.tv q) = some b := by
 intro q t b e
 cases q with
 | ty a =>
  cases t with
  | ty n =>
   simp only [ktOf] at e
   by_cases hh : (ktT a && ktT n) = true
   ·rw [if_pos hh] at e
    rw [Bool.and_eq_true] at hh
    exact ktB_ok hh.1 hh.2 e
   ·rw [if_neg hh] at e; cases e
  | own j => exact hh a j b e
 | own k =>
  cases t with
  | ty n => exact hg k n b e
  | own j => exact hf k j b e
def ktg0 : Nat → String → Option Bool := fun _ _ => none
def kth0 : String → Nat → Option Bool := fun _ _ => none
def ktF (l : List ((Nat × Nat) × Bool)) (k j : Nat) : Option Bool := l.lookup (k, j)
def ktH (l : List ((String × Nat) × Bool)) (a : String) (j : Nat) : Option Bool := l.lookup (a, j)
theorem lookup_all {α β : Type} [BEq α] [LawfulBEq α] {P : α → β → Prop} : ∀ {l : List (α × β)}, (∀ p, p ∈ l → P p.1 p.2) → ∀ {a : α} {b : β}, l.lookup a = some b → P a b
 | [], _, a, b, e => by simp at e
 | (x, y) :: r, h, a, b, e => by
  rw [List.lookup_cons] at e
  by_cases q : a == x
  ·rw [q] at e
   simp only at e
   cases e
   rw [eq_of_beq q]
   exact h _ List.mem_cons_self
  ·rw [Bool.not_eq_true] at q
   rw [q] at e
   exact lookup_all (fun p hp => h p (List.mem_cons_of_mem _ hp)) e
theorem al0 {α : Type} {P : α → Prop} : ∀ p, p ∈ ([] : List α) → P p := fun p h => by simp at h
theorem al1 {α : Type} {P : α → Prop} {a : α} {l : List α} (x : P a) (h : ∀ p, p ∈ l → P p) : ∀ p, p ∈ a :: l → P p := fun p q => by
 rcases List.mem_cons.mp q with q | q
 ·rw [q]; exact x
 ·exact h p q
def mtOf (l : List (Nat × Bool)) : XC → Option Bool
 | .own k => l.lookup k
 | .bi _ => none
theorem mt_ok {G : Gx} {K : PySem.W.Frag} {l : List (Nat × Bool)} {c : Value} (h : ∀ p, p ∈ l → PySem.W.exmOne K (.ref (G.ca p.1)) c = some p.2) : ∀ y b, mtOf l y = some b → PySem.W.exmOne K (G.xv y) c = some b := by
 intro y b e
 cases y with
 | own k => exact lookup_all (P := fun k b => PySem.W.exmOne K (.ref (G.ca k)) c = some b) h e
 | bi n => cases e
theorem gv_str {G : Gx} {x : Str} (h : PyData.strOk x = true := by decide +kernel) : GV G (.str x) (.str x) := fun _ => .str h
theorem gv_int {G : Gx} {i : Int} : GV G (.int i) (.int i) := fun _ => .int
theorem gv_tup {G : Gx} {a : Addr} {o : Obj} {its : Array Value} {n : Nat} {xs : List AV} {us : List V} (h : G.K.lookup a = some o) (h1 : o.cls = .type "tuple") (h2 : o.data = .seq its n) (hs : its.size ≤ sizeLine) (hv : Vals us its.toList) (g : GVs G xs us) : GV G (.tup xs) (.ref a) :=
 fun c => .tupK ⟨o, its, n, h, h1, h2, hs, hv⟩ (g c)
theorem pl_ref {n : Nat} : plainV (.ref n) = true := Eq.trans rfl rfl
def spLaw (K : PySem.W.Frag) : Sp := fun vs H Q _ => ∃ (a : Addr) (ns : List Int), vs = [.ref a] ∧ SqL K H a (ns.map V.int) ∧ ns.length ≤ 63 ∧ ∀ H', Q (.bl true) H'
theorem rvs_ints {G : Gx} {c : Cfg} : ∀ (ns : List Int), RVs G c (ns.map AV.int) (ns.map V.int)
 | [] => .nil
 | n :: r => .cons .int (rvs_ints r)
def mM1 (k : Str → AV → AH → Option (AV × AH)) (mo me : ME) : ME := fun τ h => (mo τ h).bind fun v h => match v with
 | .str a => (me τ h).bind fun w h => .of (k a w h)
 | _ => .stuck
def txtOk (n : Nat) : Bool := decide (n ≤ 1000000)
def kPart (a : Str) (w : AV) (h : AH) : Option (AV × AH) := match w with
 | .str b => if b.length != 0 && txtOk a.length && (PyData.strOk (Txt.partition a b).1 && PyData.strOk (Txt.partition a b).2.1 && PyData.strOk (Txt.partition a b).2.2) then some (.tup [.str (Txt.partition a b).1, .str (Txt.partition a b).2.1, .str (Txt.partition a b).2.2], h) else none
 | _ => none
section
variable {G : Gx} {B : Bx} {zs : Addr → Prop} {W : WX} {X : Cx} {c c' : Cfg} {L : List Addr} {τ : AS} {σ : SL} {pos pos' p apos : Pos} {e o : Expr} {es : List Expr} {m n mo me : ME} {ma : MA} {mt : MT} {x s : Str} {i : Nat}
theorem txt_le {n : Nat} (e : txtOk n = true) : n ≤ 1000000 := of_decide_eq_true e
theorem m1_ok {r : V → List V → Hp → VK → Prop} {k : Str → AV → AH → Option (AV × AH)} (hk : ∀ c a w u Q, Rel G c → PyData.strOk a = true → RV G c w u → PostO G c Q (k a w c.h) → r (.str a) [u] c.H Q) {σ : SL} {H : Hp} {Q : VK} (t : tI G B W (mM1 k mo me) σ H Q) : tM1 r (tI G B W mo) (tI G B W me) σ H Q := by
 obtain ⟨c, τ, L, eH, rl, s, p⟩ := t
 refine ⟨c, τ, L, eH, rl, s, (Post.bind (R := RV G) p).imp fun u H1 ⟨c1, v, e1, N1, x1, p1⟩ => ?_⟩
 cases x1 with
 | @str a ka =>
  refine ⟨⟨a, rfl⟩, c1, τ, L, e1.symm, N1.rel, s.nxt N1, (Post.bind (R := RV G) p1).imp fun u2 H2 ⟨c2, w, e2, N2, x2, p2⟩ => ?_⟩
  subst e2
  exact hk c2 a w u2 Q N2.rel ka x2 (PostO.of p2)
 | _ => exact p1.elim
theorem ne0 {n : Nat} (h : (n != 0) = true) : (n == 0) = false := by simpa using h
theorem ie_partition (ho : IE G B W X o mo) (he : IE G B W X e me) (hs : starEach [e] X.env = [(false, eval e X.env)] := by rfl) (hbase : attributeBase o "partition" X.env (eval o X.env) = eval o X.env := by rfl) (hline : (apos.endLine == pos.line) = true := by rfl) :
    IE G B W X (.Call (.Attribute o "partition" apos) [e] [] pos) (mM1 kPart mo me) := PE.imp (pe_partition ho he hs hbase hline) fun σ H Q t => m1_ok (fun c a w u Q r ka x p => by
  cases x with
  | @str b kb =>
    unfold kPart at p
    simp only at p
    by_cases h : (b.length != 0 && txtOk a.length && (PyData.strOk (Txt.partition a b).1 && PyData.strOk (Txt.partition a b).2.1 && PyData.strOk (Txt.partition a b).2.2)) = true
    · rw [if_pos h] at p
      rw [Bool.and_eq_true, Bool.and_eq_true, Bool.and_eq_true, Bool.and_eq_true] at h
      exact ⟨a, b, rfl, rfl, ne0 h.1.1, Nat.le_trans (txt_le h.1.2) (by rw [sizeLine_eq]; decide), post_tup r p (.cons (.str h.2.1.1) (.cons (.str h.2.1.2) (.cons (.str h.2.2) .nil)))⟩
    · rw [if_neg h] at p; exact p.elim
  | _ => exact p.elim) t
def sPar (i j : Nat) (ma : MA) : MS := fun τ h => (ma τ h).bindS τ fun vs h => match vs with
 | [v, w] => if i < τ.length ∧ j < τ.length then .nx ((τ.set i (some v)).set j (some w)) h else .stuck
 | _ => .stuck
def sPar3 (i j l : Nat) (ma : MA) : MS := fun τ h => (ma τ h).bindS τ fun vs h => match vs with
 | [v, w, z] => if i < τ.length ∧ j < τ.length ∧ l < τ.length then .nx (((τ.set i (some v)).set j (some w)).set l (some z)) h else .stuck
 | _ => .stuck
theorem is_par {a b : Expr} {x y : Str} {px py pt pt2 : Pos} {kt k2 : Nat} (i j : Nat) (hN : X.N.Nodup) (ha : IA G B W X [a, b] ma) (hij : i ≠ j := by decide) (hc : X.calm = true := by rfl) (hi : X.N[i]? = some x := by rfl) (hj : X.N[j]? = some y := by rfl)
    (hx : X.env.scope.names.lookup x = some .local := by rfl) (hy : X.env.scope.names.lookup y = some .local := by rfl)
    (hw : swappedStores [.Tuple [.Name x px, .Name y py] kt pt] (.Tuple [a, b] k2 pt2) X.env = pure (some [x, y]) := by rfl)
    (hs : swapsWithSole [.Tuple [.Name x px, .Name y py] kt pt] (.Tuple [a, b] k2 pt2) pos.line X.env = pure false := by rfl) :
    IS G B zs W X (.Assign [.Tuple [.Name x px, .Name y py] kt pt] (.Tuple [a, b] k2 pt2) pos) (sPar i j ma) := PS.imp (ps_par hc hN hi hj hij hx hy ha hw hs) fun D σ H ⟨c, τ, L, eH, r, o, s, p⟩ => by
  refine ⟨c, τ, L, eH, r, s, (PostS.bindS (R := RVs G) o s p).imp fun us H1 ⟨c1, vs, e1, N1, x1, p1⟩ => ?_⟩
  subst e1
  match vs, x1 with
  | [v, w], .cons xv (.cons xw .nil) =>
    simp only at p1
    by_cases hl : i < τ.length ∧ j < τ.length
    · rw [if_pos hl] at p1
      obtain ⟨L1, S1, s1⟩ := RS.put N1.rel (o.nxt N1) (s.nxt N1) hl.1 xv
      obtain ⟨L2, S2, s2⟩ := RS.put S1.rel S1.own s1 (by simpa using hl.2) xw
      exact ⟨_, _, rfl, p1 c1 L2 _ (S1.trans S2) rfl s2⟩
    · rw [if_neg hl] at p1; exact p1.elim
  | [], _ => exact p1.elim
  | [_], _ => exact p1.elim
  | _ :: _ :: _ :: _, _ => exact p1.elim
theorem is_par3 {a b d : Expr} {x y z : Str} {px py pz pt pt2 : Pos} {kt k2 : Nat} (i j l : Nat) (hN : X.N.Nodup) (ha : IA G B W X [a, b, d] ma) (hij : i ≠ j := by decide) (hil : i ≠ l := by decide) (hjl : j ≠ l := by decide) (hc : X.calm = true := by rfl) (hi : X.N[i]? = some x := by rfl) (hj : X.N[j]? = some y := by rfl) (hl : X.N[l]? = some z := by rfl)
    (hx : X.env.scope.names.lookup x = some .local := by rfl) (hy : X.env.scope.names.lookup y = some .local := by rfl) (hz : X.env.scope.names.lookup z = some .local := by rfl)
    (hw : swappedStores [.Tuple [.Name x px, .Name y py, .Name z pz] kt pt] (.Tuple [a, b, d] k2 pt2) X.env = pure (some [x, y, z]) := by rfl)
    (hs : swapsWithSole [.Tuple [.Name x px, .Name y py, .Name z pz] kt pt] (.Tuple [a, b, d] k2 pt2) pos.line X.env = pure false := by rfl) :
    IS G B zs W X (.Assign [.Tuple [.Name x px, .Name y py, .Name z pz] kt pt] (.Tuple [a, b, d] k2 pt2) pos) (sPar3 i j l ma) := PS.imp (ps_par3 hc hN hi hj hl hij hil hjl hx hy hz ha hw hs) fun D σ H ⟨c, τ, L, eH, r, o, s, p⟩ => by
  refine ⟨c, τ, L, eH, r, s, (PostS.bindS (R := RVs G) o s p).imp fun us H1 ⟨c1, vs, e1, N1, x1, p1⟩ => ?_⟩
  subst e1
  match vs, x1 with
  | [v, w, t], .cons xv (.cons xw (.cons xt .nil)) =>
    simp only at p1
    by_cases hl : i < τ.length ∧ j < τ.length ∧ l < τ.length
    · rw [if_pos hl] at p1
      obtain ⟨L1, S1, s1⟩ := RS.put N1.rel (o.nxt N1) (s.nxt N1) hl.1 xv
      obtain ⟨L2, S2, s2⟩ := RS.put S1.rel S1.own s1 (by simpa using hl.2.1) xw
      obtain ⟨L3, S3, s3⟩ := RS.put S2.rel S2.own s2 (by simpa using hl.2.2) xt
      exact ⟨_, _, _, rfl, p1 c1 L3 _ ((S1.trans S2).trans S3) rfl s3⟩
    · rw [if_neg hl] at p1; exact p1.elim
  | [], _ => exact p1.elim
  | [_], _ => exact p1.elim
  | [_, _], _ => exact p1.elim
  | _ :: _ :: _ :: _ :: _, _ => exact p1.elim
end
def mBMl (k : Nat → List AV → AH → Option (AV × AH)) (mo : ME) (ma : MA) : ME := fun τ h => (mo τ h).bind fun v h => match v with
  | .ref n => match h[n]? with
    | some (some (.lst _)) => (ma τ h).bind fun vs h => .of (k n vs h)
    | _ => .stuck
  | _ => .stuck
def kAppR (n : Nat) (vs : List AV) (h : AH) : Option (AV × AH) := match vs, h[n]? with
 | [y], some (some (.lst xs)) => if small (xs.length + 1) then some (.non, h.set n (some (.lst (xs ++ [y])))) else none
 | _, _ => none
def kPopR (n : Nat) (vs : List AV) (h : AH) : Option (AV × AH) := match vs, h[n]? with
 | [.int i], some (some (.lst xs)) => if small xs.length then (ixN xs.length i).bind fun j => (xs[j]?).map fun y => (y, h.set n (some (.lst (xs.eraseIdx j)))) else none
 | _, _ => none
def killA (v : AV) (h : AH) : Res AV := match v with
  | .ref n => match h[n]? with
    | some (some (.lst xs)) => .ok (.fl xs) (h.set n none)
    | some (some (.dk xs)) => .ok (.fd xs) (h.set n none)
    | some (some (.ins k fs)) => .ok (.obj k fs) (h.set n none)
    | _ => .stuck
  | v => .ok v h
def mKill (m : ME) : ME := fun τ h => (m τ h).bind fun v h => killA v h
section
variable {G : Gx} {B : Bx} {zs : Addr → Prop} {W : WX} {X : Cx} {c c' : Cfg} {L : List Addr} {τ : AS} {σ : SL} {pos pos' p apos cpos : Pos} {e o : Expr} {es : List Expr} {m n mo me : ME} {ma : MA} {mt : MT} {x s : Str} {i : Nat}
theorem ie_kill (he : IE G B W X e m) : IE G B W X e (mKill m) := PE.imp he fun σ H Q ⟨c, τ, L, eH, rl, s, p⟩ => by
 refine ⟨c, τ, L, eH, rl, s, ?_⟩
 unfold mKill at p
 revert p
 cases m τ c.h with
 | exc y fy h1 => exact fun p => p
 | stuck => exact fun p => p
 | ok v h1 =>
  intro p c1 u N1 e1 x1
  subst e1
  have p : Post G (RV G) c (fun k d H' => W k d σ H') Q (killA v c1.h) := p
  have p := Post.trans N1 p
  unfold killA at p
  cases x1 with
  | @ref n hn =>
   simp only at p
   split at p
   ·rename_i xs q
    obtain ⟨us, q1, y⟩ := lst_at N1.rel q
    have N2 := Nxt.kill (n := n) N1.rel
    exact p { c1 with h := c1.h.set n none } _ N2 rfl (.fl (.inl q1) (kill_frz N1.rel q) (y.mono N2.mv))
   ·rename_i xs q
    obtain ⟨us, q1, y⟩ := N1.rel.obj n _ q
    have N2 := Nxt.kill (n := n) N1.rel
    exact p { c1 with h := c1.h.set n none } _ N2 rfl (.fd (.inl q1) (kill_frz N1.rel q) (y.mono N2.mv))
   ·rename_i k fs q
    obtain ⟨dx, us, q1, y⟩ := N1.rel.obj n _ q
    have N2 := Nxt.kill (n := n) N1.rel
    exact p { c1 with h := c1.h.set n none } _ N2 rfl (.obj q1 (kill_frz N1.rel q) (y.mono N2.mv))
   ·exact p.elim
  | non => exact p c1 _ (.refl N1.rel) rfl .non
  | bl => exact p c1 _ (.refl N1.rel) rfl .bl
  | int => exact p c1 _ (.refl N1.rel) rfl .int
  | str k => exact p c1 _ (.refl N1.rel) rfl (.str k)
  | ty => exact p c1 _ (.refl N1.rel) rfl .ty
  | cls => exact p c1 _ (.refl N1.rel) rfl .cls
  | fn => exact p c1 _ (.refl N1.rel) rfl .fn
  | kd => exact p c1 _ (.refl N1.rel) rfl .kd
  | tup a b d => exact p c1 _ (.refl N1.rel) rfl (.tup a b d)
  | tupK a b => exact p c1 _ (.refl N1.rel) rfl (.tupK a b)
  | fl a b d => exact p c1 _ (.refl N1.rel) rfl (.fl a b d)
  | flK a b => exact p c1 _ (.refl N1.rel) rfl (.flK a b)
  | fd a b d => exact p c1 _ (.refl N1.rel) rfl (.fd a b d)
  | obj a b d => exact p c1 _ (.refl N1.rel) rfl (.obj a b d)
theorem bml_ok {k : Nat → List AV → AH → Option (AV × AH)} {r : V → List V → Hp → VK → Prop} (hk : ∀ c n vs us Q, Rel G c → RVs G c vs us → PostO G c Q (k n vs c.h) → r (.ref (c.rho n)) us c.H Q) {σ : SL} {H : Hp} {Q : VK} (t : tI G B W (mBMl k mo ma) σ H Q) : tBM X.K "list" r (tI G B W mo) (tIa G B W ma) σ H Q := by
 obtain ⟨c, τ, L, eH, rl, s, p⟩ := t
 refine ⟨c, τ, L, eH, rl, s, (Post.bind (R := RV G) p).imp fun u H1 ⟨c1, v, e1, N1, x1, p1⟩ => ?_⟩
 cases x1 with
 | @ref n hn =>
  simp only at p1
  split at p1
  ·rename_i xs q
   obtain ⟨us, q1, y⟩ := lst_at N1.rel q
   refine ⟨.inl ⟨rfl, us, .inl (.inl (by rw [e1]; exact q1))⟩, c1, τ, L, e1.symm, N1.rel, s.nxt N1, (Post.bind (R := RVs G) p1).imp fun u2 H2 ⟨c2, w, e2, N2, x2, p2⟩ => ?_⟩
   subst e2
   rw [← N2.mv.same n hn]
   exact hk c2 n w u2 Q N2.rel x2 (PostO.of p2)
  ·exact p1.elim
 | _ => exact p1.elim
theorem ie_appR (ho : IE G B W X o mo) (ha : IA G B W X [e] ma)
    (hbase : attributeBase o "append" X.env (eval o X.env) = eval o X.env := by rfl)
    (hfew : ((backTo cpos (starEach [e] X.env)).all (fun x => !x.1) && (backToKw cpos (keywordEach [] X.env)).all (fun x => x.1.isSome)
      && decide ([e].length + ([] : List Keyword).length + (if ([] : List Keyword).isEmpty then 0 else 1) < 30)) = true := by rfl)
    (hline : (apos.endLine == cpos.line) = true := by rfl) (hs : starEach [e] X.env = (false, eval e X.env) :: starEach [] X.env := by rfl) (hplain : (backTo cpos (starEach [] X.env)).any (·.1) = false := by rfl) :
    IE G B W X (.Call (.Attribute o "append" apos) [e] [] cpos) (mBMl kAppR mo ma) :=
  PE.imp (pe_bm PySem.F.plainAttrs_list PySem.F.slot_list_append PySem.F.type_list_append mt_append ho ha hbase hfew hline hs hplain) fun σ H Q t => bml_ok (X := X) (fun c n vs us Q r x p => by
    unfold kAppR at p
    split at p
    · rename_i y xs q
      obtain ⟨us', q1, y1⟩ := lst_at r q
      by_cases hl : small (xs.length + 1) = true
      · rw [if_pos hl] at p
        cases x with
        | cons xv xr =>
          cases xr
          have N := Nxt.write (o' := .lst (xs ++ [y])) (O := .lst (us' ++ [_])) r q fun c4 M e4 => ⟨_, e4, (RVs.append y1 (.cons xv .nil)).mono M⟩
          exact ⟨_, us', _, rfl, rfl, q1, by rw [← y1.length]; exact Nat.lt_of_lt_of_le (Nat.lt_succ_self _) (small_le hl), p _ _ N rfl .non⟩
      · rw [if_neg hl] at p; exact p.elim
    · exact p.elim) t
theorem RVs.erase : ∀ {xs : List AV} {us : List V} (j : Nat), RVs G c xs us → RVs G c (xs.eraseIdx j) (us.eraseIdx j)
 | _, _, _, .nil => .nil
 | _, _, 0, .cons _ t => t
 | _, _, j + 1, .cons r t => .cons r (RVs.erase j t)
theorem RVs.nth' : ∀ {xs : List AV} {us : List V} {j : Nat} {v : AV}, RVs G c xs us → xs[j]? = some v → ∃ u, us[j]? = some u ∧ RV G c v u
 | _, _, _, _, .nil, e => by simp at e
 | _, _, 0, _, .cons r t, e => by simp at e; subst e; exact ⟨_, rfl, r⟩
 | _, _, j + 1, _, .cons r t, e => by simp at e; obtain ⟨u, a, b⟩ := RVs.nth' t e; exact ⟨u, by simpa using a, b⟩
theorem ie_popR (ho : IE G B W X o mo) (ha : IA G B W X [e] ma)
    (hbase : attributeBase o "pop" X.env (eval o X.env) = eval o X.env := by rfl)
    (hfew : ((backTo cpos (starEach [e] X.env)).all (fun x => !x.1) && (backToKw cpos (keywordEach [] X.env)).all (fun x => x.1.isSome)
      && decide ([e].length + ([] : List Keyword).length + (if ([] : List Keyword).isEmpty then 0 else 1) < 30)) = true := by rfl)
    (hline : (apos.endLine == cpos.line) = true := by rfl) (hs : starEach [e] X.env = (false, eval e X.env) :: starEach [] X.env := by rfl) (hplain : (backTo cpos (starEach [] X.env)).any (·.1) = false := by rfl) :
    IE G B W X (.Call (.Attribute o "pop" apos) [e] [] cpos) (mBMl kPopR mo ma) :=
  PE.imp (pe_bm PySem.F.plainAttrs_list PySem.F.slot_list_pop PySem.F.type_list_pop mt_popAt ho ha hbase hfew hline hs hplain) fun σ H Q t => bml_ok (X := X) (fun c n vs us Q r x p => by
    unfold kPopR at p
    split at p
    · rename_i i xs q
      obtain ⟨us', q1, y1⟩ := lst_at r q
      by_cases hl : small xs.length = true
      · rw [if_pos hl] at p
        cases x with
        | cons xv xr =>
          cases xr
          cases xv
          cases q2 : ixN xs.length i with
          | none => rw [q2] at p; exact p.elim
          | some j =>
            rw [q2] at p
            simp only [Option.bind_some] at p
            cases q3 : xs[j]? with
            | none => rw [q3] at p; exact p.elim
            | some y =>
              rw [q3] at p
              obtain ⟨u, e4, y2⟩ := y1.nth' q3
              obtain ⟨s1, s2, s3, s4⟩ := ixN_seq q2
              have hz : xs.length ≤ 16777216 := of_decide_eq_true hl
              have N := Nxt.write (o' := .lst (xs.eraseIdx j)) (O := .lst (us'.eraseIdx j)) r q fun c4 M e4 => ⟨_, e4, (RVs.erase j y1).mono M⟩
              exact ⟨_, us', i, j, u, rfl, rfl, q1, by omega, by omega, by rw [← y1.length]; exact s1, e4, p _ _ N rfl (y2.mono N.mv)⟩
      · rw [if_neg hl] at p; exact p.elim
    · exact p.elim) t
def lstA (v : AV) (h : AH) : Option (List AV) := match v with
  | .fl xs => some xs
  | .tup xs => some xs
  | .str z => some (z.cps.toList.map fun k => .str ⟨#[k]⟩)
  | .ref n => match h[n]? with
    | some (some (.lst xs)) => some xs
    | _ => none
  | _ => none
def kListR (vs : List AV) (h : AH) : Option (AV × AH) := match vs with
 | [v] => (lstA v h).bind fun xs => if small xs.length then some (.ref h.length, h ++ [some (.lst xs)]) else none
 | _ => none
def rListA (K : PySem.W.Frag) : List V → Hp → VK → Prop := fun xs H Q => (∃ p ys, xs = [.ref p] ∧ (SqL K H p ys ∨ SqT K H p ys) ∧ ∀ l, H l = none → Q (.ref l) (upd H l (.lst ys))) ∨
 ∃ z : Str, xs = [.str z] ∧ z.length ≤ sizeLine ∧ ∀ l, H l = none → Q (.ref l) (upd H l (.lst (z.cps.toList.map fun k => V.str ⟨#[k]⟩)))
theorem call_listA (hc : X.calm = true) : CallR X (.type "list") (rListA X.K) := by
 intro pins s σ H xs us Q I r h
 rcases h with h | ⟨z, rfl, hz, q⟩
 ·exact call_list_of pins s σ H xs us Q I r h
 ·cases r with
  | cons rx rr =>
   cases rr
   obtain ⟨t, rfl⟩ := rx
   refine call_list_str (I.ok.hd hc) z t (fun h' tk acc c' hk e hi => ?_) (by simpa [Str.length] using hz)
   refine ⟨.ref s.heap.objs.size, upd H s.heap.objs.size (.lst (z.cps.toList.map fun k => V.str ⟨#[k]⟩)), I.laid hk (Nat.le_refl _) ⟨by rw [List.length_map]; simpa [Str.length] using hz, acc.toList, c', ?_, by rw [Array.toArray_toList]; exact e⟩, rfl, q _ (I.hok.fresh (Nat.le_refl _))⟩
   refine vals_of_idx _ _ (by rw [List.length_map, Array.length_toList, Array.length_toList]; exact hi.1) fun j u hj => ?_
   obtain ⟨d, t', hd, rfl⟩ := hi.2 j u (by rw [← Array.getElem?_toList]; exact hj)
   exact ⟨.str ⟨#[d]⟩, by simp [hd], ⟨_, rfl⟩⟩
theorem chars_rv {z : Str} (k : PyData.strOk z = true) : RVs G c (z.cps.toList.map fun k => AV.str ⟨#[k]⟩) (z.cps.toList.map fun k => V.str ⟨#[k]⟩) := by
 have h : ∀ k, k ∈ z.cps.toList → k < 0x110000 := by
  unfold PyData.strOk at k
  rw [Array.all_eq_true'] at k
  intro j hj
  simpa using k j (by simpa using hj)
 generalize z.cps.toList = l at h
 induction l with
 | nil => exact .nil
 | cons a l ih => exact .cons (.str (by unfold PyData.strOk; simpa using h a (by simp))) (ih fun k hk => h k (by simp [hk]))
theorem lst_cases (hK : X.K = G.K) {v : AV} {u : V} {xs : List AV} (r : Rel G c) (x : RV G c v u) (e : lstA v c.h = some xs) (hl : small xs.length = true) : ∃ us, RVs G c xs us ∧ ∀ Q : VK, (∀ l, c.H l = none → Q (.ref l) (upd c.H l (.lst us))) → rListA X.K [u] c.H Q := by
 cases x with
 | fl a b d => cases e; obtain ⟨p, us, e1, h, y⟩ := rv_list (K := X.K) hK (RV.fl a b d); cases e1; exact ⟨us, y, fun Q q => .inl ⟨_, us, rfl, .inl h, q⟩⟩
 | flK a b => cases e; obtain ⟨p, us, e1, h, y⟩ := rv_list (K := X.K) hK (RV.flK (c := c) a b); cases e1; exact ⟨us, y, fun Q q => .inl ⟨_, us, rfl, .inl h, q⟩⟩
 | tup a b d => cases e; obtain ⟨p, us, e1, h, y⟩ := rv_tup (K := X.K) hK (RV.tup a b d); cases e1; exact ⟨us, y, fun Q q => .inl ⟨_, us, rfl, .inr h, q⟩⟩
 | tupK a b => cases e; obtain ⟨p, us, e1, h, y⟩ := rv_tup (K := X.K) hK (RV.tupK (c := c) a b); cases e1; exact ⟨us, y, fun Q q => .inl ⟨_, us, rfl, .inr h, q⟩⟩
 | @str z k =>
  cases e
  refine ⟨_, chars_rv k, fun Q q => .inr ⟨z, rfl, ?_, q⟩⟩
  have := small_le hl
  rw [List.length_map] at this
  simpa [Str.length] using this
 | @ref n hn =>
  unfold lstA at e
  simp only at e
  split at e
  ·rename_i ys q
   cases e
   obtain ⟨us, q1, y⟩ := lst_at r q
   exact ⟨us, y, fun Q q => .inl ⟨_, us, rfl, .inl (.inl (.inl q1)), q⟩⟩
  ·cases e
 | _ => cases e
theorem ao_listR (hK : X.K = G.K) : AOL G kListR (rListA X.K) := fun c v us Q r x p => by
 unfold kListR at p
 split at p
 ·rename_i v
  cases q : lstA v c.h with
  | none => rw [q] at p; exact p.elim
  | some xs =>
   rw [q] at p
   simp only [Option.bind_some] at p
   by_cases hl : small xs.length = true
   ·rw [if_pos hl] at p
    cases x with
    | cons x xr =>
     cases xr
     obtain ⟨us, y, f⟩ := lst_cases hK r x q hl
     refine f Q fun a ha => ?_
     have N := Nxt.alloc (o := .lst xs) (H' := upd c.H a (.lst us)) r ha (fun b o z => by rw [upd_ne (ne_of_none z ha)]; exact z) fun c' M e => ⟨us, by rw [e, upd_same], y.mono M⟩
     have y2 : RV G { c with rho := ext c.rho c.h.length a, h := c.h ++ [some (.lst xs)], H := upd c.H a (.lst us) } (.ref c.h.length) (.ref (ext c.rho c.h.length a c.h.length)) := .ref (by simp)
     rw [ext_same] at y2
     exact p _ _ N rfl y2
   ·rw [if_neg hl] at p; exact p.elim
 ·exact p.elim
end
def W0 : WX := fun _ _ _ _ => False
def noX {α : Type} : Res α → Res α
 | .ok a h => .ok a h
 | _ => .stuck
def wipeA (τ : AS) : List Nat → AS
 | [] => τ
 | v :: vs => (wipeA τ vs).set v none
def gE (i : Nat) : MG := fun v τ => match τ[i]? with
 | some none => some (τ.set i (some v))
 | _ => none
def lcL (g : MG) (mt : MT) (me : ME) (τ : AS) : List AV → List AV → AH → Res AV
  | [], acc, h => .ok (.fl acc) h
  | v :: r, acc, h => match g v τ with
    | none => .stuck
    | some τ2 => (noX (mt τ2 h)).bind fun b h => if b then (noX (me τ2 h)).bind fun y h => if small (acc.length + 1) then lcL g mt me τ r (acc ++ [y]) h else .stuck else lcL g mt me τ r acc h
def mLc (vs : List Nat) (g : MG) (mi : MA) (mt : MT) (me : ME) : ME := fun τ h => (mi τ h).bind fun xs h => lcL g mt me (wipeA τ vs) xs [] h
def mYes : MT := fun _ h => .ok true h
section
variable {G : Gx} {B : Bx} {zs : Addr → Prop} {W : WX} {X : Cx} {c c' : Cfg} {L : List Addr} {τ : AS} {σ : SL} {pos pos' p apos cpos : Pos} {e o a : Expr} {es : List Expr} {m n mo me : ME} {ma mi : MA} {mt : MT} {x s : Str} {i : Nat} {vs : List Nat}
def tGe (G : Gx) (B : Bx) (vs : List Nat) (g : MG) : TG := fun u σ H Q => ∃ c τ L v τ', c.H = H ∧ Rel G c ∧ RS G B c L τ σ ∧ RV G c v u ∧ g v τ = some τ' ∧ ∀ σ', RS G B c L τ' σ' → wipe σ' vs = wipe σ vs → Q σ' H
def IGe (G : Gx) (B : Bx) (vs : List Nat) (X : Cx) (e : Expr) (g : MG) : Prop := PG X e (tGe G B vs g)
theorem wipe_comm {σ : SL} {i : Nat} {t : Option V} : ∀ {vs : List Nat}, i ∉ vs → wipe (σ.set i t) vs = (wipe σ vs).set i t
 | [], _ => rfl
 | v :: vs, h => by
  have h1 : i ≠ v := fun y => h (by rw [y]; exact List.mem_cons_self)
  unfold wipe
  rw [wipe_comm fun y => h (List.mem_cons_of_mem _ y), List.set_comm _ _ h1]
theorem wipe_set {σ : SL} {i : Nat} {t : Option V} : ∀ {vs : List Nat}, i ∈ vs → wipe (σ.set i t) vs = wipe σ vs
 | v :: vs, h => by
  unfold wipe
  by_cases h2 : i ∈ vs
  ·rw [wipe_set h2]
  ·rcases List.mem_cons.mp h with h | h
   ·subst h
    rw [wipe_comm h2, List.set_set]
   ·exact absurd h h2
theorem wipe_idem {σ : SL} : ∀ {vs : List Nat}, wipe (wipe σ vs) vs = wipe σ vs
 | [] => rfl
 | v :: vs => by
  show (wipe ((wipe σ vs).set v none) vs).set v none = (wipe σ vs).set v none
  by_cases h : v ∈ vs
  ·rw [wipe_set h, wipe_idem]
  ·rw [wipe_comm h, wipe_idem, List.set_set]
theorem RS.len (r : RS G B c L τ σ) : τ.length = σ.length := by
 induction r with
 | nil => rfl
 | cons _ _ ih => rw [List.length_cons, List.length_cons, ih]
theorem RS.wipe1 (r : RS G B c L τ σ) (i : Nat) : ∃ L', (∀ a, a ∈ L' → a ∈ L) ∧ RS G B c L' (τ.set i none) (σ.set i none) := by
 cases e : τ[i]? with
 | none =>
  have hl : τ.length ≤ i := List.getElem?_eq_none_iff.mp e
  rw [List.set_eq_of_length_le hl, List.set_eq_of_length_le (by rw [← r.len]; exact hl)]
  exact ⟨L, fun _ h => h, r⟩
 | some o =>
  obtain ⟨P, S, l, t, e1, e2, y, f⟩ := r.focus e
  refine ⟨P ++ [] ++ S, fun a h => by rw [e1]; simp at h ⊢; rcases h with h | h <;> simp [h], f c [] none none .refl (fun a h => ⟨r.z a (by rw [e1]; simp at h ⊢; rcases h with h | h <;> simp [h]), rfl⟩) .skip⟩
theorem RS.wipeAll (r : RS G B c L τ σ) : ∀ vs : List Nat, ∃ L', (∀ a, a ∈ L' → a ∈ L) ∧ RS G B c L' (wipeA τ vs) (wipe σ vs)
 | [] => ⟨L, fun _ h => h, r⟩
 | v :: vs => by
  obtain ⟨L1, h1, r1⟩ := RS.wipeAll r vs
  obtain ⟨L2, h2, r2⟩ := r1.wipe1 v
  exact ⟨L2, fun a h => h1 a (h2 a h), r2⟩
theorem RS.own1 (r : RS G B c L τ σ) {i : Nat} (e : τ[i]? = some none) {v : AV} {u : V} (x : RV G c v u) : RS G B c L (τ.set i (some v)) (σ.set i (some u)) := by
 obtain ⟨P, S, l, t, e1, e2, y, f⟩ := r.focus e
 cases y
 have q := f c [] (some v) (some u) .refl (fun a h => ⟨r.z a (by rw [e1]; simp at h ⊢; rcases h with h | h <;> simp [h]), rfl⟩) (.val x)
 rw [e1]
 exact q
theorem ige_name (i : Nat) {x : Str} (hN : X.N.Nodup) (hv : i ∈ vs := by decide) (hi : X.N[i]? = some x := by rfl) (hx : Loc X.env.scope x := by first | exact Or.inl rfl | exact Or.inr rfl) (hf : X.fn x = true ∨ X.env.scope.names.lookup x = some .local := by first | exact .inl rfl | exact .inr rfl | assumption) : IGe G B vs X (.Name x pos) (gE i) :=
  PG.imp (pg_name hN hi hx hf) fun u σ H Q ⟨c, τ, L, v, τ', eH, r, s, x, e, k⟩ => by
  unfold gE at e
  split at e
  · rename_i q
    cases e
    exact k _ (s.own1 q x) (wipe_set hv)
  · cases e
theorem its_nil : PTs X [] (tIt G B W mYes) := ⟨fun pins s σ H Q I ⟨c, τ, L, eH, rl, s', p⟩ => pts_nil.run pins s σ H Q I (by subst eH; exact p c true (.refl rl) rfl rfl)⟩
theorem lc_ok {mi : MA} {g : MG} {σ : SL} {H : Hp} {Q : VK} (vs : List Nat) (t : tI G B W (mLc vs g mi mt me) σ H Q) : tLc (tIi G B W mi) (tGe G B vs g) (tIt G B W0 mt) (tI G B W0 me) vs σ H Q := by
 obtain ⟨c, τ, L, eH, rl, s, p⟩ := t
 refine ⟨c, τ, L, eH, rl, s, (Post.bind (R := fun c' (vs : List AV) (J : It) => Goes G c' J vs) p).imp fun J H1 ⟨c1, xs, e1, N1, ⟨Gd, Y, w, hG, hY⟩, p1⟩ => ?_⟩
 subst e1
 have s1 := s.nxt N1
 intro D hD
 obtain ⟨L0, hL0, sw⟩ := s1.wipeAll vs
 let Z1 : Addr → Prop := fun a => c1.Z a ∨ a = D
 have nDZ : ¬ c1.Z D := N1.rel.nz hD
 have nDL : ∀ a, a ∈ L0 → c1.Z a := fun a h => s1.z a (hL0 a h)
 refine ⟨fun i k H => ∃ (c2 : Cfg) (acc : List AV) (us : List V), c2.H = H ∧ k + i = xs.length ∧ Rel G c2 ∧ Mv c1 c2 ∧ (∀ a, c2.Z a ↔ (c1.Z a ∨ a = D)) ∧ (∀ a, c1.Z a → c2.H a = c1.H a) ∧ c2.H D = some (.lst us) ∧ RVs G c2 acc us ∧
   Post G (RV G) c1 (fun k d H' => W k d σ H') Q (lcL g mt me (wipeA τ vs) (xs.drop i) acc c2.h),
  ⟨xs.length, { c1 with Z := fun a => c1.Z a ∨ a = D, H := upd c1.H D (.lst []) }, [], [], rfl, rfl, N1.rel.mine hD, Mv.mine hD, fun a => Iff.rfl, fun a z => upd_ne fun y => nDZ (by rw [← y]; exact z), upd_same, .nil, p1⟩, ?_⟩
 rintro i k H ⟨c2, acc, us, rfl, hk, r2, M2, hZ, hH, hD2, y2, p2⟩
 have hg2 := hG c2 M2
 by_cases hi2 : i < xs.length
 ·refine .inr ⟨w.goes i c2.H hi2 hg2, fun H' => ∃ k', k' < k ∧ ∃ (c3 : Cfg) (acc : List AV) (us : List V), c3.H = H' ∧ k' + (i + 1) = xs.length ∧ Rel G c3 ∧ Mv c1 c3 ∧ (∀ a, c3.Z a ↔ (c1.Z a ∨ a = D)) ∧ (∀ a, c1.Z a → c3.H a = c1.H a) ∧ c3.H D = some (.lst us) ∧ RVs G c3 acc us ∧
    Post G (RV G) c1 (fun k d H' => W k d σ H') Q (lcL g mt me (wipeA τ vs) (xs.drop (i + 1)) acc c3.h), fun H' h => h, fun x H' y => ?_⟩
  obtain ⟨N3, x3⟩ := hY c2 i x H' xs[i] M2 r2 (by simp [hi2]) (w.yields i c2.H x H' hi2 hg2 y)
  rw [List.drop_eq_getElem_cons hi2] at p2
  unfold lcL at p2
  cases q : g xs[i] (wipeA τ vs) with
  | none => rw [q] at p2; exact p2.elim
  | some τ2 =>
   rw [q] at p2
   simp only at p2
   have cz : ∀ a, c1.Z a → c2.Z a := fun a z => (hZ a).mpr (.inl z)
   have sw2 : RS G B c2 L0 (wipeA τ vs) (wipe σ vs) := sw.mono M2 fun a h => ⟨cz a (nDL a h), hH a (nDL a h)⟩
   have sw3 := sw2.nxt N3
   have rest : ∀ {c4 : Cfg}, Nxt G c2 c4 → (Rel G c4 ∧ Mv c1 c4 ∧ (∀ a, c4.Z a ↔ (c1.Z a ∨ a = D)) ∧ (∀ a, c1.Z a → c4.H a = c1.H a) ∧ c4.H D = some (.lst us) ∧ RVs G c4 acc us) := fun {c4} N => by
    refine ⟨N.rel, M2.trans N.mv, fun a => by rw [N.z]; exact hZ a, fun a z => (N.zz a (cz a z)).trans (hH a z), (N.zz D ((hZ D).mpr (.inr rfl))).trans hD2, y2.mono N.mv⟩
   refine ⟨{ c2 with H := H' }, _, L0, xs[i], τ2, rfl, N3.rel, sw3, x3, q, fun σ2 s2 hw => ⟨hw.trans wipe_idem, { c2 with H := H' }, τ2, L0, rfl, N3.rel, s2, ?_⟩⟩
   revert p2
   cases eT : mt τ2 c2.h with
   | exc _ _ _ => exact fun p2 => p2.elim
   | stuck => exact fun p2 => p2.elim
   | ok b h4 =>
    intro p2 c4 u4 N4 e4 x4
    subst x4
    subst e4
    have p2 : Post G (RV G) c1 (fun k d H' => W k d σ H') Q (if b = true then (noX (me τ2 c4.h)).bind fun y h => if small (acc.length + 1) then lcL g mt me (wipeA τ vs) (xs.drop (i + 1)) (acc ++ [y]) h else .stuck else lcL g mt me (wipeA τ vs) (xs.drop (i + 1)) acc c4.h) := p2
    have N24 := N3.trans N4
    cases b with
    | false =>
     rw [if_neg Bool.false_ne_true] at p2 ⊢
     obtain ⟨a1, a2, a3, a4, a5, a6⟩ := rest N24
     exact ⟨k - 1, by omega, c4, acc, us, rfl, by omega, a1, a2, a3, a4, a5, a6, p2⟩
    | true =>
     rw [if_pos rfl] at p2 ⊢
     refine ⟨c4, τ2, L0, rfl, N4.rel, s2.nxt N4, ?_⟩
     revert p2
     cases eE : me τ2 c4.h with
     | exc _ _ _ => exact fun p2 => p2.elim
     | stuck => exact fun p2 => p2.elim
     | ok y h5 =>
      intro p2 c5 u5 N5 e5 x5
      subst e5
      have p2 : Post G (RV G) c1 (fun k d H' => W k d σ H') Q (if small (acc.length + 1) then lcL g mt me (wipeA τ vs) (xs.drop (i + 1)) (acc ++ [y]) c5.h else .stuck) := p2
      by_cases hl : small (acc.length + 1) = true
      ·rw [if_pos hl] at p2
       obtain ⟨a1, a2, a3, a4, a5, a6⟩ := rest (N24.trans N5)
       refine ⟨us, a5, by rw [← a6.length]; exact Nat.lt_of_lt_of_le (Nat.lt_succ_self _) (small_le hl), k - 1, by omega, { c5 with H := upd c5.H D (.lst (us ++ [u5])) }, acc ++ [y], us ++ [u5], rfl, by omega, ?_⟩
       have zD : c5.Z D := (a3 D).mpr (.inr rfl)
       have M6 := Mv.turn (O := .lst (us ++ [u5])) zD
       exact ⟨a1.turn zD, a2.trans M6, a3, fun a z => (upd_ne fun y => nDZ (by rw [← y]; exact z)).trans (a4 a z), upd_same, (RVs.append a6 (.cons x5 .nil)).mono M6, p2⟩
      ·rw [if_neg hl] at p2; exact p2.elim
 ·have hl : xs.length ≤ i := by omega
  have hk0 : i = xs.length := by omega
  subst hk0
  refine .inl ⟨w.stops c2.H hg2, ?_⟩
  rw [List.drop_length] at p2
  have M3 : Mv c2 { c2 with Z := c1.Z } := Mv.fewer fun a z => (hZ a).mpr (.inl z)
  have r3 : Rel G { c2 with Z := c1.Z } := r2.fewer fun a z => (hZ a).mpr (.inl z)
  have N : Nxt G c1 { c2 with Z := c1.Z } := ⟨r3, M2.trans M3, rfl, hH⟩
  exact p2 { c2 with Z := c1.Z } (.ref D) N rfl (.fl (.inl hD2) ⟨(r2.zok D ((hZ D).mpr (.inr rfl))).1, nDZ⟩ (y2.mono M3))
theorem ie_lc {elt tg iter : Expr} {ifs : List Expr} {scope : Scope} (own : List (Str × Nat)) {g : MG} (hN : X.N.Nodup) (ok : BlkOk X.N X.env.scope scope own) (hi : II G B W X tg iter mi)
  (hg : ∀ (s : Shared) (H : Hp) (C : Addr) (cl : List (Str × Addr)) (fp : List Addr), IGe G B (own.map (·.2)) (X.blk s H scope (compEnvC scope cl C X.env) fp) tg g) (ht : ∀ (s : Shared) (H : Hp) (C : Addr) (cl : List (Str × Addr)) (fp : List Addr), PTs (X.blk s H scope (compEnvC scope cl C X.env) fp) ifs (tIt G B W0 mt))
  (he : ∀ (s : Shared) (H : Hp) (C : Addr) (cl : List (Str × Addr)) (fp : List Addr), IE G B W0 (X.blk s H scope (compEnvC scope cl C X.env) fp) elt me) (hc : X.calm = true := by rfl) (hs : ∀ x, foldedSetIterable iter X.env x = pure x := by intro _; rfl) :
  IE G B W X (.ListComp elt [⟨tg, iter, ifs, 0⟩] scope pos) (mLc (own.map (·.2)) g mi mt me) :=
 PE.imp (pe_lc hc hN hi ok hg ht he hs) fun _ _ _ t => lc_ok _ t
theorem take0 : Takes X W0 := fun u s' ⟨_, _, _, _, _, _, _, _, _, _, _, _, _, _, _, _, w⟩ => w.elim
end
section
variable {G : Gx} {B : Bx} {zs : Addr → Prop} {W : WX} {X : Cx} {c c' : Cfg} {L : List Addr} {τ : AS} {σ : SL} {pos pos' p apos cpos : Pos} {e o a : Expr} {es : List Expr} {m n mo me : ME} {ma mi mk : MA} {mt : MT} {x s : Str} {i : Nat} {vs : List Nat}
inductive IJ (G : Gx) (B : Bx) (W : WX) (X : Cx) : List Expr → List ME → Prop where
 | nil : IJ G B W X [] []
 | cons {e : Expr} {m : ME} {es : List Expr} {ms : List ME} (h : IE G B W X e m) (r : IJ G B W X es ms) : IJ G B W X (e :: es) (m :: ms)
theorem IJ.pj {es : List Expr} {ms : List ME} (h : IJ G B W X es ms) : PJ X es (ms.map (tI G B W)) := by
 induction h with
 | nil => exact .nil
 | cons h _ ih => exact .cons h ih
section
variable {M : Model} {A : Around} {E : Value → Shared → Prop} {s : Shared} {y : Addr} {first : List Value} {Q : Value → Shared → Prop}
end
structure OwnM (K : PySem.W.Frag) (C : Addr) (m : Str) (f : Addr) : Prop where
 at_ : PySem.W.findIn K (.ref C) m = some (some (.ref f))
 fn : PySem.W.isFn K (.ref f) = true
 fi : PySem.W.fnIn K f = true
def pickL {α : Type} (pk : List Nat) (ws : List α) : List α := pk.filterMap fun i => ws[i]?
theorem pick_vals {zs : List V} {ws : List Value} (r : Vals zs ws) : ∀ pk : List Nat, Vals (pickL pk zs) (pickL pk ws)
 | [] => .nil
 | i :: pk => by
  unfold pickL
  cases e : zs[i]? with
  | none =>
   have : ws[i]? = none := by rw [List.getElem?_eq_none_iff] at e ⊢; rw [← r.length]; exact e
   rw [List.filterMap_cons_none e, List.filterMap_cons_none this]
   exact pick_vals r pk
  | some v =>
   obtain ⟨u, hu, ru⟩ := r.get e
   rw [List.filterMap_cons_some e, List.filterMap_cons_some hu]
   exact .cons ru (pick_vals r pk)
theorem pick_rvs {zs : List AV} {ws : List V} (r : RVs G c zs ws) : ∀ pk : List Nat, RVs G c (pickL pk zs) (pickL pk ws)
 | [] => .nil
 | i :: pk => by
  unfold pickL
  cases e : zs[i]? with
  | none =>
   have : ws[i]? = none := by rw [List.getElem?_eq_none_iff] at e ⊢; rw [← r.length]; exact e
   rw [List.filterMap_cons_none e, List.filterMap_cons_none this]
   exact pick_rvs r pk
  | some v =>
   obtain ⟨u, hu, ru⟩ := r.nth' e
   rw [List.filterMap_cons_some e, List.filterMap_cons_some hu]
   exact .cons ru (pick_rvs r pk)
def IK (G : Gx) (B : Bx) (W : WX) (X : Cx) (kws : List Keyword) (m : MA) : Prop := PK X kws (tIa G B W m)
theorem PK.imp {kws : List Keyword} {t t' : TA} (h : PK X kws t) (f : ∀ σ H Q, t' σ H Q → t σ H Q) : PK X kws t' := ⟨fun pos pins s σ H Q I q => h.run pos pins s σ H Q I (f _ _ _ q)⟩
theorem ik_nil : IK G B W X [] mNil := PK.imp pk_nil fun σ H Q ⟨c, τ, L, eH, rl, s, p⟩ => by
 subst eH
 exact p c _ (.refl rl) rfl .nil
theorem ik_cons {nm : Option Str} {kpos : Pos} {kws : List Keyword} (ha : IE G B W X e m) (hr : IK G B W X kws ma) : IK G B W X (⟨nm, e, kpos⟩ :: kws) (mCons m ma) := by
 refine PK.imp (pk_cons ha hr) fun σ H Q ⟨c, τ, L, eH, rl, s, p⟩ => ?_
 refine ⟨c, τ, L, eH, rl, s, (Post.bind (R := RV G) p).imp fun u H1 ⟨c1, v, e1, N1, x1, p1⟩ => ?_⟩
 refine ⟨c1, τ, L, e1.symm, N1.rel, s.nxt N1, (Post.bind (R := RVs G) p1).imp fun us H2 ⟨c2, vs, e2, N2, x2, p2⟩ => ?_⟩
 subst e2
 exact p2 c2 _ (.refl N2.rel) rfl (.cons (x1.mono N2.mv) x2)
theorem run_makeKS {CX : CXT} {k n : Nat} {f C : Addr} {fd : FuncData} {ps ks : List Str} {sp : Sp} {pins : List (Addr × Obj)} {σ : SL} {H : Hp} {s : Shared} {Q : VK} {us ws : List Value} {vs zs : List V} {E : SL → XK} {g : List Value → List Value → List Value} {gV : List V → List V → List V} (M : Mk X.K C f) (F : FnOk X.prog X.w X.K X.mg X.base CX k f fd ps sp) (hr : Room (k + 1) X.A) (hb : KBn X.K fd ps (n + 1) ks g gV) (hx : PassesAt CX X σ (E σ))
  (I : Inv X pins σ H s) (r : Vals vs us) (rz : Vals zs ws) (l1 : vs.length = n) (l2 : zs.length = ks.length)
  (h : ∀ x dx, H x = none → H dx = none → dx ≠ x → sp (gV (.ref x :: vs) zs) (upd (upd H dx (.own x)) x (.ins C dx [])) (fun v H2 => v = .non ∧ Q (.ref x) H2) (E σ)) :
  wpAny (model X.prog X.w) X.A (call (.ref C) us (ks.zip ws)) (EP X pins σ Q) X.xe s := by
 have hq := h (s.heap.objs.size + 1) s.heap.objs.size (I.hok.fresh (Nat.le_succ _)) (I.hok.fresh (Nat.le_refl _)) (Nat.ne_of_lt (Nat.lt_succ_self _))
 have I2 := Inv.made (C := C) I
 have r1 : Vals (V.ref (s.heap.objs.size + 1) :: vs) (Value.ref (s.heap.objs.size + 1) :: us) := .cons rfl r
 have r2 := hb.rel r1 rz
 have n1 : (Value.ref (s.heap.objs.size + 1) :: us).length = n + 1 := by rw [List.length_cons, ← r.length, l1]
 refine wpAny_call (make_map (f := f) I.kIn M.makes M.init (beq_iff_eq.mp M.fn) (codeAny_mono (F.run _ X.stack _ _ ⟨Value.ref (s.heap.objs.size + 1) :: us, ks.zip ws⟩ (g (Value.ref (s.heap.objs.size + 1) :: us) ws) _ _ (E σ) (hr.make C us (ks.zip ws))
  (I2.env0.make C us (ks.zip ws)) (hb.to _ (Value.ref (s.heap.objs.size + 1) :: us) ws I2.kIn n1 (rz.length.symm.trans l2)) r2 hq) fun r s' hq' => ?_))
 cases r with
 | error e => exact hx pins _ _ e s' I2 hq'
 | ok fl =>
  cases fl with
  | ret u =>
   obtain ⟨v, H', I3, rv, ev, q3⟩ := I2.after hq'
   subst ev
   exact ⟨rv, ⟨V.ref (s.heap.objs.size + 1), H', I3, rfl, q3⟩⟩
  | next => exact False.elim hq'
  | brk => exact False.elim hq'
  | cont => exact False.elim hq'
end
section
variable {G : Gx} {B : Bx} {zs : Addr → Prop} {W : WX} {X : Cx} {c c' : Cfg} {L : List Addr} {τ : AS} {σ : SL} {pos pos' p apos cpos : Pos} {e o a : Expr} {es : List Expr} {m n mo me : ME} {ma mi mk : MA} {mt : MT} {x s : Str} {i : Nat} {vs : List Nat}
structure EqOk (G : Gx) (K : PySem.W.Frag) (kc : Nat) (ot : AT → Bool) (f : Addr) : Prop where
 at_ : PySem.W.findIn K (.ref (G.ca kc)) "__eq__" = some (some (.ref f))
 fn : PySem.W.isFn K (.ref f) = true
 nf : ∀ t, ot t = true → PySem.W.notFirst K (G.ca kc) (G.tv t) = true
end
def keyA : AV → Option Key
 | .int i => some (.inl i)
 | .str x => some (.inr x)
 | _ => none
def valA (kvs : List (Key × AV)) (k : Key) : Option AV := (kvs.find? fun kv => decide (kv.1 = k)).map (·.2)
def putA (kvs : List (Key × AV)) (k : Key) (v : AV) : List (Key × AV) :=
 if (kvs.any fun kv => decide (kv.1 = k)) = true then kvs.map (fun kv => if kv.1 = k then (kv.1, v) else kv) else kvs ++ [(k, v)]
def dropA (kvs : List (Key × AV)) (k : Key) : List (Key × AV) := kvs.filter fun kv => decide (kv.1 ≠ k)
def mergeA (kvs more : List (Key × AV)) : List (Key × AV) := more.foldl (fun acc kv => putA acc kv.1 kv.2) kvs
section
variable {G : Gx} {B : Bx} {zs : Addr → Prop} {W : WX} {X : Cx} {c c' : Cfg} {L : List Addr} {τ : AS} {σ : SL} {pos pos' p apos cpos : Pos} {e o a : Expr} {es : List Expr} {m n mo me : ME} {ma mi mk : MA} {mt : MT} {x s : Str} {i : Nat} {vs : List Nat}
theorem RVd.val {xs : List (Key × AV)} {us : List (Key × V)} (r : RVd G c xs us) (k : Key) : match valA xs k with
  | some v => ∃ u, valV us k = some u ∧ RV G c v u
  | none => valV us k = none := by
 induction xs generalizing us with
 | nil => cases r; rfl
 | cons p xs ih =>
  cases r with
  | @cons k' v _ u us hk x t =>
   by_cases h : k' = k
   ·subst h
    have e1 : valA ((k', v) :: xs) k' = some v := by simp [valA, List.find?_cons]
    rw [e1]
    exact ⟨u, valV_pos rfl, x⟩
   ·have e1 : valA ((k', v) :: xs) k = valA xs k := by simp [valA, List.find?_cons, h]
    rw [e1]
    have := ih t
    rw [valV_neg (p := (k', u)) h]
    exact this
theorem RVd.any {xs : List (Key × AV)} {us : List (Key × V)} (r : RVd G c xs us) (k : Key) : (xs.any fun kv => decide (kv.1 = k)) = us.any fun kv => decide (kv.1 = k) := by
 induction xs generalizing us with
 | nil => cases r; rfl
 | cons p xs ih => cases r with | cons hk x t => rw [List.any_cons, List.any_cons, ih t]
theorem RVd.put {xs : List (Key × AV)} {us : List (Key × V)} {k : Key} {v : AV} {u : V} (hk : kOk k = true) (y : RV G c v u) (r : RVd G c xs us) : RVd G c (putA xs k v) (putK us k u) := by
 unfold putA putK
 rw [r.any k]
 by_cases h : (us.any fun kv => decide (kv.1 = k)) = true
 ·rw [if_pos h, if_pos h]
  clear h
  induction xs generalizing us with
  | nil => cases r; exact .nil
  | cons p xs ih =>
   cases r with
   | @cons k' v' _ u' us hk' x t =>
    rw [List.map_cons, List.map_cons]
    by_cases h : k' = k
    ·subst h
     simp only [if_pos]
     exact .cons hk' y (ih t)
    ·simp only [if_neg h]
     exact .cons hk' x (ih t)
 ·rw [if_neg h, if_neg h]
  clear h
  induction xs generalizing us with
  | nil => cases r; exact .cons hk y .nil
  | cons p xs ih => cases r with | cons hk' x t => exact .cons hk' x (ih t)
theorem RVd.drop {xs : List (Key × AV)} {us : List (Key × V)} {k : Key} (r : RVd G c xs us) : RVd G c (dropA xs k) (dropK us k) := by
 unfold dropA dropK
 induction xs generalizing us with
 | nil => cases r; exact .nil
 | cons p xs ih =>
  cases r with
  | @cons k' v' _ u' us hk' x t =>
   by_cases h : k' = k
   ·rw [List.filter_cons_of_neg (by simp [h]), List.filter_cons_of_neg (by simp [h])]
    exact ih t
   ·rw [List.filter_cons_of_pos (by simp [h]), List.filter_cons_of_pos (by simp [h])]
    exact .cons hk' x (ih t)
theorem RVd.merge {more : List (Key × AV)} {rs : List (Key × V)} {xs : List (Key × AV)} {us : List (Key × V)} (r : RVd G c more rs) (q : RVd G c xs us) : RVd G c (mergeA xs more) (mergeK us rs) := by
 induction more generalizing rs xs us with
 | nil => cases r; exact q
 | cons p more ih => cases r with | cons hk x t => (have z := ih t (q.put hk x); exact z)
theorem key_rv {v : AV} {u : V} {k : Key} (x : RV G c v u) (e : keyA v = some k) : u = kV k ∧ kOk k = true := by
 cases x <;> first | (cases e; exact ⟨rfl, rfl⟩) | (cases e; exact ⟨rfl, by assumption⟩) | cases e
def dctA (v : AV) (h : AH) : Option (List (Key × AV)) := match v with
  | .fd kvs => some kvs
  | .ref n => match h[n]? with
    | some (some (.dk kvs)) => some kvs
    | _ => none
  | _ => none
theorem dct_rv {v : AV} {u : V} {kvs : List (Key × AV)} (r : Rel G c) (x : RV G c v u) (e : dctA v c.h = some kvs) : ∃ a us, u = .ref a ∧ Rd c.H a (.dK us) ∧ RVd G c kvs us := by
 cases x with
 | fd q f y => cases e; exact ⟨_, _, rfl, q, y⟩
 | @ref n hn =>
  unfold dctA at e
  simp only at e
  split at e
  ·rename_i xs q
   cases e
   obtain ⟨us, q1, y⟩ := r.obj n _ q
   exact ⟨_, us, rfl, .inl q1, y⟩
  ·cases e
 | _ => cases e
def kDGet (v w : AV) (h : AH) : Option (AV × AH) := (dctA v h).bind fun kvs => (keyA w).bind fun k => (valA kvs k).map fun x => (x, h)
theorem ie_dget {a b : Expr} (hu : X.A.units + 1 < cLine) (ha : IE G B W X a m) (hb : IE G B W X b n) (hs : NoSl b := by exact fun _ _ => rfl) : IE G B W X (.Subscript a b pos) (mBin kDGet m n) :=
  PE.imp (pe_dget hu ha hb hs) fun σ H Q t => by
  refine two (r := fun x y H Q => ∃ a v, x = .ref a ∧ DGet H a y (some v) ∧ Q v H) (fun c v w u x Q r xv xw p => ?_) t
  unfold kDGet at p
  cases q1 : dctA v c.h with
  | none => rw [q1] at p; exact p.elim
  | some kvs =>
    rw [q1] at p
    simp only [Option.bind_some] at p
    cases q2 : keyA w with
    | none => rw [q2] at p; exact p.elim
    | some k =>
      rw [q2] at p
      simp only [Option.bind_some] at p
      obtain ⟨a, us, rfl, h1, y⟩ := dct_rv r xv q1
      obtain ⟨rfl, hk⟩ := key_rv xw q2
      have hv := y.val k
      cases q3 : valA kvs k with
      | none => rw [q3] at p; exact p.elim
      | some z =>
        rw [q3] at hv p
        obtain ⟨u2, e2, x2⟩ := hv
        exact ⟨a, u2, rfl, .inl ⟨us, k, h1, rfl, e2.symm⟩, post_fin r p x2⟩
inductive IPs (G : Gx) (B : Bx) (W : WX) (X : Cx) (pos : Pos) : List (Option Expr) → List Expr → List (ME × ME) → Prop where
 | nil : IPs G B W X pos [] [] []
 | cons {k v : Expr} {ks : List (Option Expr)} {vs : List Expr} {mk mv : ME} {ms : List (ME × ME)} (hk : IE G B W X k mk) (hv : IE G B W X v mv) (r : IPs G B W X pos ks vs ms) : IPs G B W X pos (some k :: ks) (v :: vs) ((mk, mv) :: ms)
end
section
variable {prog : Program} {w : World} {A : Around} {E : Value → Shared → Prop} {s : Shared} {K : PySem.W.Frag} {y C f : Addr} {ox : Obj} {od : Option Obj}
end
structure NeOk (G : Gx) (K : PySem.W.Frag) (kc : Nat) : Prop where
 ne : PySem.W.findIn K (.ref (G.ca kc)) "__ne__" = some (some (.builtin "object.__ne__"))
 ob : PySem.W.subIn K (.ref (G.ca kc)) (.type "object") = some true
section
variable {G : Gx} {B : Bx} {W : WX} {X : Cx} {c c' : Cfg}
end
theorem ty7 {P : String → Prop} (h1 : P "NoneType") (h2 : P "bool") (h3 : P "int") (h4 : P "str") (h5 : P "tuple") (h6 : P "list") (h7 : P "dict") : ∀ n, ktT n = true → P n := by
 intro n ha
 unfold ktT at ha
 simp only [Bool.or_eq_true, decide_eq_true_eq] at ha
 rcases ha with (((((rfl | rfl) | rfl) | rfl) | rfl) | rfl) | rfl <;> assumption
def ktG (ks : List Nat) (k : Nat) (n : String) : Option Bool := if ks.contains k && ktT n then some false else none
theorem ktG_ok {G : Gx} {K : PySem.W.Frag} {ks : List Nat} (h : ∀ k, k ∈ ks → ∀ n, ktT n = true → PySem.W.kitOne K (.type n) (.ref (G.ca k)) = some false) : ∀ k n b, ktG ks k n = some b → PySem.W.kitOne K (.type n) (.ref (G.ca k)) = some b := by
 intro k n b e
 unfold ktG at e
 by_cases q : (ks.contains k && ktT n) = true
 ·rw [if_pos q] at e
  cases e
  rw [Bool.and_eq_true] at q
  exact h k (by simpa using q.1) n q.2
 ·rw [if_neg q] at e; cases e
section
variable {G : Gx} {B : Bx} {zs : Addr → Prop} {W : WX} {X : Cx} {c c' : Cfg} {L : List Addr} {τ : AS} {σ : SL} {pos pos' p : Pos} {o : Expr}
end
def rInDA (K : PySem.W.Frag) (neg : Bool) : R2 := fun x y H Q => ∃ d ds, Dp K H x d ∧ Dp K H y (.list ds) ∧ SeqAt.shaped d = true ∧ SeqAt.shaped (.list ds) = true ∧ Q (.bl (if neg then !ds.any fun z => PyData.eqv z d else ds.any fun z => PyData.eqv z d)) H
section
variable {G : Gx} {X : Cx} {c : Cfg}
theorem op_inDA {k : Nat} (hr : Room k X.A) : OpR X (compareOp .In) (rInDA X.K false) := op_inD (by have := hr.un; omega)
theorem op_notInDA {k : Nat} (hr : Room k X.A) : OpR X (compareOp .NotIn) (rInDA X.K true) := op_notInD (by have := hr.un; omega)
end
section
variable {G : Gx} {B : Bx} {zs : Addr → Prop} {W : WX} {X : Cx} {c c' : Cfg} {L : List Addr} {τ : AS} {σ : SL} {pos pos' p : Pos} {e o a : Expr} {me : ME} {mt : MT} {x s : Str} {i : Nat} {vs : List Nat}
end
end PI
namespace PI
open PySem PySem.Spec PyProof.Rows L2
theorem enum_new1 {v : Value} {o : Obj} {H : Heap → Prop} (B : Begins v o H) :
  Meets (Builtin.«enumerate.__new__» ⟨[.type "enumerate", v], []⟩) (fun _ R s => H s.heap ∧
   R (.ok (.ret (.ref (s.heap.push o).objs.size))) { s with heap := (s.heap.push o).push { cls := .type "enumerate", data := .fields #[.none, .bool false, .ref s.heap.objs.size, rawInt 0, .none, .none] } }) :=
 .of_wp fun prog w A R s h => by
  obtain ⟨hp, g, d, tk, os⟩ := s; obtain ⟨h1, h⟩ := h
  have hsub := sub_enumerate
  have q1 : ∀ {A' : Around} {E : Value → Shared → Prop} {Q : Value → Shared → Prop}, Q (.ref hp.objs.size) ⟨hp.push o, g, d, tk, os⟩ → wpAny (model prog w) A' (pyIter v) Q E ⟨hp, g, d, tk, os⟩ :=
   fun q => B.iter prog w _ _ ⟨hp, g, d, tk, os⟩ _ h1 q
  wp_walk using q1
  refine wpAny_stack_any fun st => wpAny_pure ?_
  split
  ·rename_i c _ _ _ _ _
   cases (c == Value.type "enumerate")
   ·wp_walk using q1
    exact ⟨_, rfl, h⟩
   ·wp_walk using q1
    exact ⟨_, rfl, h⟩
  ·wp_walk using q1
   exact ⟨_, rfl, h⟩
theorem enum_begin1 {prog : Program} {w : World} {A : Around} {E : Value → Shared → Prop} {s : Shared} {v : Value} {o : Obj} {H : Heap → Prop} {Q : Value → Shared → Prop} (B : Begins v o H) (h1 : H s.heap)
    (h : ∀ h', IsEnum h' (s.heap.objs.size + 1) s.heap.objs.size 0 .none → h'.get? s.heap.objs.size = some o → h'.objs.size = s.heap.objs.size + 2 →
      (∀ b o, s.heap.get? b = some o → h'.get? b = some o) → Q (.ref (s.heap.objs.size + 1)) { s with heap := h' }) :
    wpAny (model prog w) A (call (.type "enumerate") [v]) Q E s := by
  refine callType_new F.called_enumerate (by decide) (F.typeCall_enumerate_1 _) (F.newCall_enumerate_1 _) (fun obj => F.args_object_init_2 obj _) F.entry_enumerate_new
    (enum_new1 B) ⟨h1, ?_⟩
  have hz : (s.heap.push o).objs.size = s.heap.objs.size + 1 := Heap.size_push ..
  show _ ∧ _
  rw [hz]
  have he : IsEnum ((s.heap.push o).push { cls := .type "enumerate", data := .fields #[.none, .bool false, .ref s.heap.objs.size, rawInt 0, .none, .none] }) (s.heap.objs.size + 1) s.heap.objs.size 0 .none := by
    have := Heap.get?_push_size (s.heap.push o) (o := { cls := .type "enumerate", data := .fields #[.none, .bool false, .ref s.heap.objs.size, rawInt 0, .none, .none] }) rfl
    rw [hz] at this; exact this
  refine ⟨⟨_, he, rfl⟩, h _ he (Heap.get?_push_of_some _ (Heap.get?_push_size _ B.free)) (by rw [Heap.size_push, hz]) fun b o x => Heap.get?_push_of_some _ (Heap.get?_push_of_some _ x)⟩
def IteT (K : PySem.W.Frag) (a : Addr) : It :=
 ⟨fun i H => ∃ (xs : List V) (x : V), SqT K H a xs ∧ xs[i]? = some x, fun i H v H' => ∃ T x, v = .ref T ∧ H T = none ∧ H' = upd H T (.tup [.int (i : Nat), x]) ∧ ∀ xs, SqT K H a xs → xs[i]? = some x, fun i H => ∃ xs : List V, SqT K H a xs ∧ xs.length ≤ i⟩
theorem turn_enumT {P : Program} {w : World} {K : PySem.W.Frag} {elts : List Expr} {kk : Nat} {tpos : Pos} (a e it : Addr) (hae : a ≠ e) (hai : a ≠ it) :
  Turn P w K (.Tuple elts kk tpos) (IteT K a) [e, it] e (fun i h => (∃ old, IsEnum h e it ((i : Nat) : Int) old) ∧ h.IsTupleIter it a i ∧ e ≠ it) where
 mem := by simp
 obj := fun i h st b hb => by
  obtain ⟨⟨old, he⟩, ⟨o, ho, hc, hd⟩, _⟩ := st
  have e' : b = e ∨ b = it := by simpa using hb
  rcases e' with z | z
  ·rw [z]; exact ⟨_, he, fun v q => nomatch q⟩
  ·rw [z]; exact ⟨o, ho, fun v q => by rw [hd] at q; cases q⟩
 keep := fun i h h' st k => let ⟨⟨old, he⟩, hi, hne⟩ := st; ⟨⟨old, k e (by simp) _ he⟩, hi.at fun o q => k it (by simp) o q, hne⟩
 item := by
  intro X hP hw hK hc i pins s σ H E I hf st hg
  subst hP hw hK
  obtain ⟨⟨old, he⟩, hit, hne⟩ := st
  obtain ⟨xs, x, hq, hx⟩ := hg
  obtain ⟨its, rv, p, hz⟩ := I.tuple hq
  obtain ⟨u, hu, ru⟩ := rv.get hx
  have hel : e < s.heap.objs.size := Heap.lt_size he
  have hil : it < s.heap.objs.size := by obtain ⟨_, q, _⟩ := hit; exact Heap.lt_size q
  have hlt : i < its.toArray.size := by
   have := (List.getElem?_eq_some_iff.mp hu).1
   simpa using this
  refine wpAny_pyNext_enum_itemD (Draws.tuple (A := X.A.in1) (I.ok.hd hc) it a hai its.toArray) he ⟨hit, p⟩ hlt hne (by simp only [List.mem_cons, List.not_mem_nil, or_false, not_or]; exact ⟨hne, Ne.symm hae⟩) fun x' h' tk hP ho hst' hT hsz hk => ?_
  have hx' : u = x' := by
   have h1 : its.toArray[i]? = some u := by simpa using hu
   have h2 : its.toArray[i]? = some x' := hP
   rw [h1] at h2
   exact Option.some.inj h2
  subst hx'
  refine ⟨_, rfl, wpAny_letOwnedTupleGo_enum (s := { s with heap := h', toks := tk + 1 }) ho fun h'' he' sb => ?_⟩
  have hT2 : h''.get? s.heap.objs.size = some { cls := .type "tuple", data := .seq #[.int i tk, u] } := (sb.2 _ (Nat.ne_of_gt hel)).trans hT
  have new : ObjOk X.prog X.w (upd H s.heap.objs.size (.tup [.int (i : Nat), x])) h'' s.heap.objs.size (.tup [.int (i : Nat), x]) :=
   ⟨by show 2 ≤ sizeLine; decide, [.int i tk, u], .cons ⟨_, rfl⟩ (.cons ru .nil), ⟨_, hT2, rfl, _, rfl⟩⟩
  have I1 : Inv X pins σ (upd H s.heap.objs.size (.tup [.int (i : Nat), x])) { s with heap := h'', toks := tk + 1 } :=
   I.turnedNew (ch := [e, it]) (fun b ob hb q => (sb.2 b (fun z => hb (by simp [z]))).trans (hk b ob (fun z => hb (by simp [z])) (fun z => hb (by simp [z])) q)) hf (Nat.le_refl _) new
  refine ⟨.ref s.heap.objs.size, _, I1, rfl, ⟨_, x, rfl, I.hok.fresh (Nat.le_refl _), rfl, fun ys hy => by rw [I.tuple_inj hy hq]; exact hx⟩, ⟨⟨u, ?_⟩, hst'.1.at fun o q => (sb.2 it (Ne.symm hne)).trans q, hne⟩, fun b hb => ?_⟩
  ·have e1 : ((i + 1 : Nat) : Int) = (i : Int) + 1 := by omega
   rw [e1]; exact he'
  ·have hb' : b < s.heap.objs.size := by
    have e' : b = e ∨ b = it := by simpa using hb
    rcases e' with z | z
    ·rw [z]; exact hel
    ·rw [z]; exact hil
   rw [upd_ne (Nat.ne_of_lt hb')]
   exact (hf b hb).1
 done := by
  intro X hP hw hK hc i pins s σ H E I hf st hg
  subst hP hw hK
  obtain ⟨⟨old, he⟩, hit, hne⟩ := st
  obtain ⟨xs, hq, hx⟩ := hg
  obtain ⟨its, rv, p, hz⟩ := I.tuple hq
  obtain ⟨f0, f1, f2, f3, f4, f5⟩ := hf it (by simp)
  have hl := rv.length
  have hend : ∀ {E' : Value → Shared → Prop} {Q' : Value → Shared → Prop}, (∀ h' e, Heap.ExtBut it s.heap h' → (∃ o, h'.get? e = some o ∧ o.cls = .type "StopIteration") → E' (.ref e) { s with heap := h' }) → wpAny (model X.prog X.w) X.A.in1 (Builtin.SmallTypes.nextOf (.ref it)) Q' E' s := fun q =>
   wpAny_nextOf_tuple_end (A := X.A.in1) (I.ok.hd hc) hit p (by simp; omega) q
  have hT : s.TypeIs (.ref e) "enumerate" := ⟨_, he, rfl⟩
  unfold pyNext
  refine wpAny_bind (wpAny_attempt (wpAny_callSpecial?_slot (name := Str.ofString "__next__") hT F.slot_enumerate_next
   (wpAny_call_entry F.slot_enumerate_next hT F.entry_enumerate_next ?_ (F.args_enumerate_next_1 _))))
  show wpAny _ _ (field (.ref e) 2 >>= _) _ _ _
  refine wpAny_bind (wpAny_field he rfl (x := .ref it) rfl ?_)
  refine wpAny_bind (hend fun h' x he' hx' => ?_)
  obtain ⟨o, ho, hc2⟩ := hx'
  refine wpAny_bind (wpAny_isInstance (T := "StopIteration") (b := true) ⟨o, ho, hc2⟩ isSubtype_stop ?_)
  exact wpAny_pure ⟨rfl, I.turned (t' := s.toks) (fun b o hb q => he' b o hb q) f0 f1 f3 f4 f5⟩
 self := fun A i s Q E st h => let ⟨⟨_, he⟩, _⟩ := st; wpAny_pyIter_enum he h
section
variable {G : Gx} {B : Bx} {W : WX} {X : Cx} {c c' : Cfg} {pos p : Pos} {e : Expr} {ma : MA}
def iEnumA (K : PySem.W.Frag) (ta : TA) : TI := fun σ H R => ta σ H fun vs H1 => ∃ a xs, vs = [.ref a] ∧ ((SqL K H1 a xs ∧ R (Ite K a) H1) ∨ (SqT K H1 a xs ∧ R (IteT K a) H1))
theorem pi_enumA {ta : TA} {tpos : Pos} {elts : List Expr} {kk : Nat} (hg : Gl X "enumerate") (hm : X.mg "enumerate" = none) (ha : PA X [e] ta) (hs : starEach [e] X.env = [(false, eval e X.env)] := by rfl) :
    PI X (.Tuple elts kk tpos) (.Call (.Name "enumerate" p) [e] [] pos) (iEnumA X.K ta) := by
  refine ⟨fun pins s σ H R I h => ?_⟩
  refine Call_ (ld_blt I hg hm boot_enumerate (PyProof.Rows.callWith_type1 (thn (ha.run pos pins s σ H _ I h) fun us s1 ⟨vs, H1, I1, r1, q1⟩ => ?_) hs rfl))
  obtain ⟨a, xs, ex, q1⟩ := q1
  subst ex
  cases r1 with
  | cons r rr =>
    cases rr
    cases r
    have fp2 : ∀ b, b ∈ [s1.heap.objs.size + 1, s1.heap.objs.size] → FpOk X pins H1 b := fun b hb => by
      have e' : b = s1.heap.objs.size + 1 ∨ b = s1.heap.objs.size := by simpa using hb
      have hle : s1.heap.objs.size ≤ b := by
        rcases e' with z | z
        · rw [z]; exact Nat.le_add_right _ _
        · rw [z]; exact Nat.le_refl _
      exact I1.fpOk hle (I1.hok.fresh hle)
    rcases q1 with ⟨hq, q⟩ | ⟨hq, q⟩
    · obtain ⟨its, rv, p', hz⟩ := I1.list hq
      refine call_enumerate_list p'.isList fun h' he hit hsz hk => wpAny_pyIter_enum he ?_
      have I2 : Inv X pins σ H1 { s1 with heap := h' } := I1.kept (t' := s1.toks) hk
      exact ⟨s1.heap.objs.size + 1, [s1.heap.objs.size + 1, s1.heap.objs.size], _, _, H1, rfl, I2, turn_enum a (s1.heap.objs.size + 1) s1.heap.objs.size, ⟨⟨.none, he⟩, hit, Nat.succ_ne_self _⟩, fp2, q⟩
    · obtain ⟨its, rv, p', hz⟩ := I1.tuple hq
      have hlt : a < s1.heap.objs.size := by
        obtain ⟨o, ho, _⟩ := id p'
        exact Heap.lt_size ho
      refine enum_begin1 (begins_tuple a its.toArray) p' fun h' he hit hsz hk => wpAny_pyIter_enum he ?_
      have I2 : Inv X pins σ H1 { s1 with heap := h' } := I1.kept (t' := s1.toks) hk
      exact ⟨s1.heap.objs.size + 1, [s1.heap.objs.size + 1, s1.heap.objs.size], _, _, H1, rfl, I2, turn_enumT a (s1.heap.objs.size + 1) s1.heap.objs.size (Nat.ne_of_lt (Nat.lt_succ_of_lt hlt)) (Nat.ne_of_lt hlt), ⟨⟨.none, he⟩, ⟨_, hit, rfl, rfl⟩, Nat.succ_ne_self _⟩, fp2, q⟩
theorem walk_enumT {K : PySem.W.Frag} {a : Addr} {xs : List V} : Walk (IteT K a) xs.length (fun H => SqT K H a xs) (YPair (fun i => some (.int (i : Nat))) (fun i => xs[i]?)) := by
 refine ⟨fun i _ hi q => ⟨xs, xs[i], q, by simp [hi]⟩, fun _ q => ⟨xs, q, Nat.le_refl _⟩, fun i H v H' _ q y => ?_⟩
 obtain ⟨T, x, h1, h2, h3, h4⟩ := y
 exact ⟨T, .int (i : Nat), x, h1, h2, h3, rfl, h4 xs q⟩
theorem enum_nth {xs : List AV} {i : Nat} {v : AV} (e : (enumA xs)[i]? = some v) : ∃ v0, xs[i]? = some v0 ∧ v = .tup [.int (i : Nat), v0] := by
 unfold enumA at e
 rw [List.getElem?_zipWith] at e
 cases hr : (List.range xs.length)[i]? with
 | none => rw [hr] at e; simp at e
 | some j =>
  cases hx : xs[i]? with
  | none => rw [hr, hx] at e; simp at e
  | some v0 =>
   rw [hr, hx] at e
   have : j = i := by
    have := List.getElem?_range (n := xs.length) (i := i)
    rw [List.getElem?_eq_some_iff] at hr
    obtain ⟨h3, h4⟩ := hr
    simpa using h4.symm
   subst this
   simp at e
   exact ⟨v0, rfl, e.symm⟩
theorem goes_enumT {a : Addr} {xs : List AV} {K : PySem.W.Frag} (hK : K = G.K) (x : RV G c (.tup xs) (.ref a)) : Goes G c (IteT K a) (enumA xs) := by
 subst hK
 have hq : ∃ us, (∀ c', Mv c c' → SqT G.K c'.H a us) ∧ RVs G c xs us := by
  cases x with
  | tup r f y => exact ⟨_, fun c' M => .inl (M.rd r f).1, y⟩
  | tupK k y => exact ⟨_, fun c' M => .inr k, y⟩
 obtain ⟨us, h1, y⟩ := hq
 have hl : (enumA xs).length = us.length := by unfold enumA; simp [y.length]
 refine ⟨fun H => SqT G.K H a us, YPair (fun i => some (.int (i : Nat))) (fun i => us[i]?), by rw [hl]; exact walk_enumT, h1, fun c' i x H'' v M r e q => ?_⟩
 obtain ⟨T, z, w, rfl, hT, rfl, e1, e2⟩ := q
 cases e1
 obtain ⟨v0, e3, rfl⟩ := enum_nth e
 obtain ⟨u, e4, y2⟩ := y.nth e3
 have e2' : us[i]? = some w := e2
 rw [e4] at e2'
 cases e2'
 have N := Nxt.temp (O := .tup [.int (i : Nat), w]) r hT
 exact ⟨N, .tup (.inl upd_same) (r.frz hT) (.cons .int (.cons ((y2.mono M).mono N.mv) .nil))⟩
def mEnumA (ma : MA) : MA := fun τ h => (ma τ h).bind fun vs h => match vs with
 | [.fl xs] => .ok (enumA xs) h
 | [.tup xs] => .ok (enumA xs) h
 | _ => .stuck
theorem ii_enumA {elts : List Expr} {kk : Nat} {tpos : Pos} (hK : X.K = G.K) (hm : X.mg "enumerate" = none) (ha : IA G B W X [e] ma) (hg : Gl X "enumerate" := by rfl) (hs : starEach [e] X.env = [(false, eval e X.env)] := by rfl) :
    II G B W X (.Tuple elts kk tpos) (.Call (.Name "enumerate" p) [e] [] pos) (mEnumA ma) := PI.imp (pi_enumA hg hm ha hs) fun σ H R ⟨c, τ, L, eH, r, s, q⟩ => by
  refine ⟨c, τ, L, eH, r, s, (Post.bind (R := RVs G) q).imp fun u H1 ⟨c1, v, e1, N1, x1, p1⟩ => ?_⟩
  subst e1
  cases x1 with
  | nil => exact p1.elim
  | @cons y ys u1 us1 y1 t1 =>
    cases t1 with
    | cons _ _ => exact (by cases y <;> exact p1.elim)
    | nil =>
      cases y with
      | fl xs =>
        obtain ⟨a, us, rfl, q1, yy⟩ := rv_list hK y1
        exact ⟨a, us, rfl, .inl ⟨q1, p1 c1 _ (.refl N1.rel) rfl (goes_enum hK y1)⟩⟩
      | tup xs =>
        obtain ⟨a, us, rfl, q1, yy⟩ := rv_tup hK y1
        exact ⟨a, us, rfl, .inr ⟨q1, p1 c1 _ (.refl N1.rel) rfl (goes_enumT hK y1)⟩⟩
      | _ => exact p1.elim
end
theorem forL_cons {g : MG} {b : MS} {v : AV} {r : List AV} {τ τ1 τ2 : AS} {h h2 : AH} (e1 : g v τ = some τ1) (e2 : b τ1 h = .nx τ2 h2) : forL g b (v :: r) τ h = forL g b r τ2 h2 := by
 rw [forL, e1]
 simp only
 rw [e2]
theorem lcL_filter {g : MG} {mt : MT} {me : ME} {τ : AS} {h : AH} (p : AV → Bool) (f : AV → AV) : ∀ (vs acc : List AV), (∀ v, v ∈ vs → ∃ τ2, g v τ = some τ2 ∧ mt τ2 h = .ok (p v) h ∧ (p v = true → me τ2 h = .ok (f v) h)) → acc.length + vs.length ≤ 16777216 →
  lcL g mt me τ vs acc h = .ok (.fl (acc ++ (vs.filter p).map f)) h
 | [], acc, _, _ => by simp [lcL]
 | v :: r, acc, H, hl => by
  obtain ⟨τ2, e1, e2, e3⟩ := H v (by simp)
  rw [lcL, e1]
  simp only [e2, noX, Res.bind]
  have hl' : acc.length + r.length + 1 ≤ 16777216 := by simpa [Nat.add_assoc] using hl
  cases q : p v with
  | true =>
   have hs : small (acc.length + 1) = true := decide_eq_true (by omega)
   simp only [e3 q, if_true, hs]
   rw [lcL_filter p f r _ (fun w hw => H w (by simp [hw])) (by simp; omega)]
   simp [q]
  | false =>
   simp only [Bool.false_eq_true, if_false]
   rw [lcL_filter p f r _ (fun w hw => H w (by simp [hw])) (by omega)]
   simp [q]
theorem lcL_map {g : MG} {me : ME} {τ : AS} {h : AH} (f : AV → AV) (vs : List AV) (H : ∀ v, v ∈ vs → ∃ τ2, g v τ = some τ2 ∧ me τ2 h = .ok (f v) h) (hl : vs.length ≤ 16777216) :
  lcL g mYes me τ vs [] h = .ok (.fl (vs.map f)) h := by
 rw [lcL_filter (fun _ => true) f vs [] (fun v hv => by obtain ⟨τ2, e1, e2⟩ := H v hv; exact ⟨τ2, e1, rfl, fun _ => e2⟩) (by simpa using hl)]
 rw [List.filter_eq_self.mpr (fun _ _ => rfl)]
 simp
inductive Al2 {α β : Type} (R : α → β → Prop) : List α → List β → Prop where
 | nil : Al2 R [] []
 | cons {a b as bs} : R a b → Al2 R as bs → Al2 R (a :: as) (b :: bs)
theorem Al2.len {α β : Type} {R : α → β → Prop} {as : List α} {bs : List β} (h : Al2 R as bs) : as.length = bs.length := by
 induction h with
 | nil => rfl
 | cons _ _ ih => simp [ih]
theorem Al2.nth {α β : Type} {R : α → β → Prop} {as : List α} {bs : List β} (h : Al2 R as bs) : ∀ {i : Nat} {b : β}, bs[i]? = some b → ∃ a, as[i]? = some a ∧ R a b := by
 induction h with
 | nil => intro i b e; simp at e
 | @cons x y xs ys r _ ih =>
  intro i b e
  cases i with
  | zero => simp at e; subst e; exact ⟨x, rfl, r⟩
  | succ i => exact ih (by simpa using e)
section
variable {α β : Type} {a : α} {h h1 : AH} {x : XC} {fx : List (Nat × AV)} {f : α → AH → Res β} {fS : α → AH → SRes} {τ : AS}
@[simp] theorem bind_ok : (Res.ok a h).bind f = f a h := rfl
@[simp] theorem bind_exc : (Res.exc x fx h : Res α).bind f = .exc x fx h := rfl
@[simp] theorem bind_stuck : (Res.stuck : Res α).bind f = .stuck := rfl
@[simp] theorem bindS_ok : (Res.ok a h).bindS τ fS = fS a h := rfl
@[simp] theorem bindS_exc : (Res.exc x fx h : Res α).bindS τ fS = .exc x fx τ h := rfl
@[simp] theorem bindS_stuck : (Res.stuck : Res α).bindS τ fS = .stuck := rfl
@[simp] theorem of_some : (Res.of (some (a, h)) : Res α) = .ok a h := rfl
@[simp] theorem of_none : (Res.of none : Res α) = .stuck := rfl
end
def SRes.thn (r : SRes) (n : MS) : SRes := match r with
 | .nx τ h => n τ h
 | r => r
@[simp] theorem thn_nx {τ : AS} {h : AH} {n : MS} : (SRes.nx τ h).thn n = n τ h := rfl
@[simp] theorem thn_rt {v : AV} {h : AH} {n : MS} : (SRes.rt v h).thn n = .rt v h := rfl
@[simp] theorem thn_bk {τ : AS} {h : AH} {n : MS} : (SRes.bk τ h).thn n = .bk τ h := rfl
@[simp] theorem thn_ct {τ : AS} {h : AH} {n : MS} : (SRes.ct τ h).thn n = .ct τ h := rfl
@[simp] theorem thn_exc {x : XC} {fx : List (Nat × AV)} {τ : AS} {h : AH} {n : MS} : (SRes.exc x fx τ h).thn n = .exc x fx τ h := rfl
@[simp] theorem thn_stuck {n : MS} : (SRes.stuck).thn n = .stuck := rfl
section
variable {m n : MS} {e e2 e3 : ME} {ea : MA} {et et2 : MT} {g : MG} {τ : AS} {h : AH} {i : Nat} {v w u : AV} {vs ws : List AV} {b : Bool} {k : AV → AV → AH → Option (AV × AH)} {k1 : AV → AH → Option (AV × AH)} {kl : List AV → AH → Option (AV × AH)}
@[simp] theorem sSeq_ev : sSeq m n τ h = (m τ h).thn n := rfl
@[simp] theorem sSkip_ev : sSkip τ h = .nx τ h := rfl
def fSet (i : Nat) (τ : AS) : AV → AH → SRes := fun v h => if i < τ.length then .nx (τ.set i (some v)) h else .stuck
@[simp] theorem sSet_ev : sSet i e τ h = (e τ h).bindS τ (fSet i τ) := rfl
@[simp] theorem fSet_ev : fSet i τ v h = if i < τ.length then .nx (τ.set i (some v)) h else .stuck := rfl
def fExpr (τ : AS) : AV → AH → SRes := fun _ h => .nx τ h
@[simp] theorem sExpr_ev : sExpr e τ h = (e τ h).bindS τ (fExpr τ) := rfl
@[simp] theorem fExpr_ev : fExpr τ v h = .nx τ h := rfl
def fRet : AV → AH → SRes := fun v h => .rt v h
@[simp] theorem sRet_ev : sRet e τ h = (e τ h).bindS τ fRet := rfl
@[simp] theorem fRet_ev : fRet v h = .rt v h := rfl
def fIf (m n : MS) (τ : AS) : Bool → AH → SRes := fun b h => if b then m τ h else n τ h
@[simp] theorem sIf_ev : sIf et m n τ h = (et τ h).bindS τ (fIf m n τ) := rfl
@[simp] theorem fIf_t : fIf m n τ true h = m τ h := rfl
@[simp] theorem fIf_f : fIf m n τ false h = n τ h := rfl
def fFor (g : MG) (m : MS) (τ : AS) : List AV → AH → SRes := fun vs h => forL g m vs τ h
@[simp] theorem sFor_ev : sFor g ea m τ h = (ea τ h).bindS τ (fFor g m τ) := rfl
@[simp] theorem fFor_ev : fFor g m τ vs h = forL g m vs τ h := rfl
def fAsg (g : MG) (τ : AS) : AV → AH → SRes := fun v h => match g v τ with
 | some τ' => .nx τ' h
 | none => .stuck
@[simp] theorem sAsg_ev : sAsg g e τ h = (e τ h).bindS τ (fAsg g τ) := rfl
@[simp] theorem fAsg_ev : fAsg g τ v h = match g v τ with | some τ' => .nx τ' h | none => .stuck := rfl
def fRaise (τ : AS) : XC × List (Nat × AV) → AH → SRes := fun q h => .exc q.1 q.2 τ h
@[simp] theorem sRaise_ev {mx : MX} : sRaise mx τ h = (mx τ h).bindS τ (fRaise τ) := rfl
@[simp] theorem fRaise_ev {q : XC × List (Nat × AV)} : fRaise τ q h = .exc q.1 q.2 τ h := rfl
def fExc (x : XC) (fs : List Nat) : List AV → AH → Res (XC × List (Nat × AV)) := fun vs h => if vs.length = fs.length then .ok (x, (fs.zip vs).reverse) h else .stuck
@[simp] theorem mExc_ev {x : XC} {fs : List Nat} : mExc x fs ea τ h = (ea τ h).bind (fExc x fs) := rfl
@[simp] theorem fExc_ev {x : XC} {fs : List Nat} : fExc x fs vs h = if vs.length = fs.length then .ok (x, (fs.zip vs).reverse) h else .stuck := rfl
def SRes.ctch (r : SRes) (mt : XC → Option Bool) (i : Nat) (su : MS) : SRes := match r with
  | .exc x fs τ' h' => match mt x with
    | some true => if noE τ' ∧ i < τ'.length then suiteEnd i (su (τ'.set i (some (.mE x fs))) h') else .stuck
    | some false => .exc x fs τ' h'
    | none => .stuck
  | r => r
@[simp] theorem sTryAs_ev {mt : XC → Option Bool} : sTryAs m mt i n τ h = (m τ h).ctch mt i n := rfl
@[simp] theorem ctch_nx {mt : XC → Option Bool} : (SRes.nx τ h).ctch mt i n = .nx τ h := rfl
@[simp] theorem ctch_rt {mt : XC → Option Bool} : (SRes.rt v h).ctch mt i n = .rt v h := rfl
@[simp] theorem ctch_bk {mt : XC → Option Bool} : (SRes.bk τ h).ctch mt i n = .bk τ h := rfl
@[simp] theorem ctch_ct {mt : XC → Option Bool} : (SRes.ct τ h).ctch mt i n = .ct τ h := rfl
@[simp] theorem ctch_exc {mt : XC → Option Bool} {x : XC} {fs : List (Nat × AV)} : (SRes.exc x fs τ h).ctch mt i n = match mt x with
  | some true => if noE τ ∧ i < τ.length then suiteEnd i (n (τ.set i (some (.mE x fs))) h) else .stuck
  | some false => .exc x fs τ h
  | none => .stuck := rfl
def SRes.ctch0 (r : SRes) (mt : XC → Option Bool) (su : MS) : SRes := match r with
  | .exc x fs τ' h' => match mt x with
    | some true => suiteEnd0 (su τ' h')
    | some false => .exc x fs τ' h'
    | none => .stuck
  | r => r
@[simp] theorem ctch0_nx {mt : XC → Option Bool} : (SRes.nx τ h).ctch0 mt n = .nx τ h := rfl
@[simp] theorem ctch0_rt {mt : XC → Option Bool} : (SRes.rt v h).ctch0 mt n = .rt v h := rfl
@[simp] theorem ctch0_bk {mt : XC → Option Bool} : (SRes.bk τ h).ctch0 mt n = .bk τ h := rfl
@[simp] theorem ctch0_ct {mt : XC → Option Bool} : (SRes.ct τ h).ctch0 mt n = .ct τ h := rfl
@[simp] theorem ctch0_exc {mt : XC → Option Bool} {x : XC} {fs : List (Nat × AV)} : (SRes.exc x fs τ h).ctch0 mt n = match mt x with
  | some true => suiteEnd0 (n τ h)
  | some false => .exc x fs τ h
  | none => .stuck := rfl
@[simp] theorem suiteEnd_nx : suiteEnd i (.nx τ h) = if noE (τ.set i none) then .nx (τ.set i none) h else .stuck := rfl
@[simp] theorem suiteEnd_rt : suiteEnd i (.rt v h) = .rt v h := rfl
@[simp] theorem suiteEnd0_nx : suiteEnd0 (.nx τ h) = .nx τ h := rfl
@[simp] theorem suiteEnd0_rt : suiteEnd0 (.rt v h) = .rt v h := rfl
@[simp] theorem noE_cons_none : noE (none :: τ) = noE τ := by simp [noE]
@[simp] theorem noE_nil' : noE [] = true := rfl
def notE : AV → Bool
 | .mE _ _ => false
 | _ => true
@[simp] theorem noE_cons_some : noE (some v :: τ) = (notE v && noE τ) := by cases v <;> simp [noE, notE]
@[simp] theorem notE_non : notE .non = true := rfl
@[simp] theorem notE_bl : notE (.bl b) = true := rfl
@[simp] theorem notE_int {i : Int} : notE (.int i) = true := rfl
@[simp] theorem notE_str {i : Str} : notE (.str i) = true := rfl
@[simp] theorem notE_tup {i : List AV} : notE (.tup i) = true := rfl
@[simp] theorem notE_fl {i : List AV} : notE (.fl i) = true := rfl
@[simp] theorem notE_fd {i : List (Key × AV)} : notE (.fd i) = true := rfl
@[simp] theorem notE_ref {i : Nat} : notE (.ref i) = true := rfl
@[simp] theorem notE_obj {i : Nat} {fs : List (Nat × AV)} : notE (.obj i fs) = true := rfl
@[simp] theorem notE_mI {i : Nat} {fs : List (Nat × AV)} : notE (.mI i fs) = true := rfl
@[simp] theorem notE_mL {i : List AV} : notE (.mL i) = true := rfl
theorem notE_knd (hp : plainV v = true) : notE v = true := by cases v <;> first | rfl | (simp [plainV] at hp)
def fPar (i j : Nat) (τ : AS) : List AV → AH → SRes := fun vs h => match vs with
 | [v, w] => if i < τ.length ∧ j < τ.length then .nx ((τ.set i (some v)).set j (some w)) h else .stuck
 | _ => .stuck
@[simp] theorem sPar_ev {i j : Nat} : sPar i j ea τ h = (ea τ h).bindS τ (fPar i j τ) := rfl
@[simp] theorem fPar_ev {i j : Nat} : fPar i j τ [v, w] h = if i < τ.length ∧ j < τ.length then .nx ((τ.set i (some v)).set j (some w)) h else .stuck := rfl
def fPar3 (i j l : Nat) (τ : AS) : List AV → AH → SRes := fun vs h => match vs with
 | [v, w, z] => if i < τ.length ∧ j < τ.length ∧ l < τ.length then .nx (((τ.set i (some v)).set j (some w)).set l (some z)) h else .stuck
 | _ => .stuck
@[simp] theorem sPar3_ev {i j l : Nat} : sPar3 i j l ea τ h = (ea τ h).bindS τ (fPar3 i j l τ) := rfl
@[simp] theorem fPar3_ev {i j l : Nat} : fPar3 i j l τ [v, w, u] h = if i < τ.length ∧ j < τ.length ∧ l < τ.length then .nx (((τ.set i (some v)).set j (some w)).set l (some u)) h else .stuck := rfl
def fSetIx2 (v w : AV) (τ : AS) : AV → AH → SRes := fun k h => match w, k with
  | .ref n, .int j => match h[n]? with
    | some (some (.lst xs)) => match ixN xs.length j with
      | some q => .nx τ (h.set n (some (.lst (xs.set q v))))
      | none => .stuck
    | _ => .stuck
  | _, _ => .stuck
def fSetIx1 (mi : ME) (v : AV) (τ : AS) : AV → AH → SRes := fun w h => (mi τ h).bindS τ (fSetIx2 v w τ)
def fSetIx (mo mi : ME) (τ : AS) : AV → AH → SRes := fun v h => (mo τ h).bindS τ (fSetIx1 mi v τ)
@[simp] theorem sSetIx_ev : sSetIx e e2 e3 τ h = (e3 τ h).bindS τ (fSetIx e e2 τ) := rfl
@[simp] theorem fSetIx_ev : fSetIx e e2 τ v h = (e τ h).bindS τ (fSetIx1 e2 v τ) := rfl
@[simp] theorem fSetIx1_ev : fSetIx1 e2 v τ w h = (e2 τ h).bindS τ (fSetIx2 v w τ) := rfl
@[simp] theorem fSetIx2_ev {n : Nat} {j : Int} : fSetIx2 v (.ref n) τ (.int j) h = match h[n]? with
    | some (some (.lst xs)) => match ixN xs.length j with
      | some q => .nx τ (h.set n (some (.lst (xs.set q v))))
      | none => .stuck
    | _ => .stuck := rfl
def fFldSet1 (ks : List Nat) (f : Nat) (v : AV) (τ : AS) : AV → AH → SRes := fun w h => match w with
  | .ref n => match h[n]? with
    | some (some (.ins k fs)) => if ks.contains k && few fs then .nx τ (h.set n (some (.ins k (aput f v fs)))) else .stuck
    | _ => .stuck
  | _ => .stuck
def fFldSet (ks : List Nat) (f : Nat) (o : ME) (τ : AS) : AV → AH → SRes := fun v h => (o τ h).bindS τ (fFldSet1 ks f v τ)
@[simp] theorem sFldSet_ev {ks : List Nat} {f : Nat} : sFldSet ks f e e2 τ h = (e2 τ h).bindS τ (fFldSet ks f e τ) := rfl
@[simp] theorem fFldSet_ev {ks : List Nat} {f : Nat} : fFldSet ks f e τ v h = (e τ h).bindS τ (fFldSet1 ks f v τ) := rfl
@[simp] theorem fFldSet1_ev {ks : List Nat} {f n : Nat} : fFldSet1 ks f v τ (.ref n) h = match h[n]? with
  | some (some (.ins k fs)) => if ks.contains k && few fs then .nx τ (h.set n (some (.ins k (aput f v fs)))) else .stuck
  | _ => .stuck := rfl
def fOwnF (ks : List Nat) (f : Nat) (τ : AS) : AV → AH → SRes := fun v h => match τ with
 | some (.mI k fs) :: r => if ks.contains k && few fs then .nx (some (.mI k (aput f v fs)) :: r) h else .stuck
 | _ => .stuck
@[simp] theorem sOwnF_ev {ks : List Nat} {f : Nat} : sOwnF ks f e τ h = (e τ h).bindS τ (fOwnF ks f τ) := rfl
@[simp] theorem fOwnF_ev {ks : List Nat} {f k : Nat} {fs : List (Nat × AV)} : fOwnF ks f (some (.mI k fs) :: τ) v h = if ks.contains k && few fs then .nx (some (.mI k (aput f v fs)) :: τ) h else .stuck := rfl
@[simp] theorem aput_nil {f : Nat} : aput f v [] = [(f, v)] := rfl
@[simp] theorem aput_cons {f j : Nat} {fs : List (Nat × AV)} : aput f v ((j, w) :: fs) = if j = f then (j, v) :: fs else (j, w) :: aput f v fs := rfl
@[simp] theorem few_nil : few [] = true := by decide
theorem few_of {fs : List (Nat × AV)} (hf : fs.length ≤ 900) : few fs = true := decide_eq_true hf
@[simp] theorem few_cons {f : Nat × AV} {fs : List (Nat × AV)} : few (f :: fs) = decide (fs.length + 1 ≤ 900) := rfl
@[simp] theorem gN_ev : gN i v τ = if i < τ.length then some (τ.set i (some v)) else none := rfl
@[simp] theorem gsNil_ev : gsNil [] τ = some τ := rfl
@[simp] theorem gsCons_ev {gs : List AV → AS → Option AS} : gsCons g gs (v :: vs) τ = (g v τ).bind fun τ' => gs vs τ' := rfl
@[simp] theorem gT_tup {gs : List AV → AS → Option AS} : gT i gs (.tup vs) τ = if vs.length = i then gs vs τ else none := rfl
@[simp] theorem gT_fl {gs : List AV → AS → Option AS} : gT i gs (.fl vs) τ = if vs.length = i then gs vs τ else none := rfl
@[simp] theorem gE_ev : gE i v τ = match τ[i]? with | some none => some (τ.set i (some v)) | _ => none := rfl
@[simp] theorem mVar_ev : mVar i τ h = match τ[i]? with | some (some v) => if plainV v then .ok v h else .stuck | _ => .stuck := rfl
@[simp] theorem mC_ev : mC v τ h = .ok v h := rfl
def fUn (k : AV → AH → Option (AV × AH)) : AV → AH → Res AV := fun v h => .of (k v h)
@[simp] theorem mUn_ev : mUn k1 e τ h = (e τ h).bind (fUn k1) := rfl
@[simp] theorem fUn_ev : fUn k1 v h = .of (k1 v h) := rfl
def fBin2 (k : AV → AV → AH → Option (AV × AH)) (v : AV) : AV → AH → Res AV := fun w h => .of (k v w h)
def fBin (k : AV → AV → AH → Option (AV × AH)) (n : ME) (τ : AS) : AV → AH → Res AV := fun v h => (n τ h).bind (fBin2 k v)
@[simp] theorem mBin_ev : mBin k e e2 τ h = (e τ h).bind (fBin k e2 τ) := rfl
@[simp] theorem fBin_ev : fBin k e2 τ v h = (e2 τ h).bind (fBin2 k v) := rfl
@[simp] theorem fBin2_ev : fBin2 k v w h = .of (k v w h) := rfl
@[simp] theorem mNil_ev : mNil τ h = .ok [] h := rfl
def fCons2 (v : AV) : List AV → AH → Res (List AV) := fun vs h => .ok (v :: vs) h
def fCons (r : MA) (τ : AS) : AV → AH → Res (List AV) := fun v h => (r τ h).bind (fCons2 v)
@[simp] theorem mCons_ev : mCons e ea τ h = (e τ h).bind (fCons ea τ) := rfl
@[simp] theorem fCons_ev : fCons ea τ v h = (ea τ h).bind (fCons2 v) := rfl
@[simp] theorem fCons2_ev : fCons2 v vs h = .ok (v :: vs) h := rfl
def fL (k : List AV → AH → Option (AV × AH)) : List AV → AH → Res AV := fun vs h => .of (k vs h)
@[simp] theorem mL_ev : mL kl ea τ h = (ea τ h).bind (fL kl) := rfl
@[simp] theorem fL_ev : fL kl vs h = .of (kl vs h) := rfl
def fB : AV → AH → Res Bool := fun v h => .of ((boolOf v).map fun b => (b, h))
@[simp] theorem mB_ev : mB e τ h = (e τ h).bind fB := rfl
@[simp] theorem fB_ev : fB (.bl b) h = .ok b h := rfl
def fAnd (n : MT) (τ : AS) : Bool → AH → Res Bool := fun b h => if b then n τ h else .ok false h
@[simp] theorem mTAnd_ev : mTAnd et et2 τ h = (et τ h).bind (fAnd et2 τ) := rfl
@[simp] theorem fAnd_t : fAnd et τ true h = et τ h := rfl
@[simp] theorem fAnd_f : fAnd et τ false h = .ok false h := rfl
def fOr (n : MT) (τ : AS) : Bool → AH → Res Bool := fun b h => if b then .ok true h else n τ h
@[simp] theorem mTOr_ev : mTOr et et2 τ h = (et τ h).bind (fOr et2 τ) := rfl
@[simp] theorem fOr_t : fOr et τ true h = .ok true h := rfl
@[simp] theorem fOr_f : fOr et τ false h = et τ h := rfl
def fNot : Bool → AH → Res Bool := fun b h => .ok (!b) h
@[simp] theorem mTNot_ev : mTNot et τ h = (et τ h).bind fNot := rfl
@[simp] theorem fNot_ev : fNot b h = .ok (!b) h := rfl
def fIfE (m n : ME) (τ : AS) : Bool → AH → Res AV := fun b h => if b then m τ h else n τ h
@[simp] theorem mIf_ev : mIf et e e2 τ h = (et τ h).bind (fIfE e e2 τ) := rfl
@[simp] theorem fIfE_t : fIfE e e2 τ true h = e τ h := rfl
@[simp] theorem fIfE_f : fIfE e e2 τ false h = e2 τ h := rfl
def fAndV (n : ME) (τ : AS) : AV → AH → Res AV := fun v h => match v with
 | .bl true => n τ h
 | .bl false => .ok (.bl false) h
 | _ => .stuck
@[simp] theorem mAndV_ev : mAndV e e2 τ h = (e τ h).bind (fAndV e2 τ) := rfl
@[simp] theorem fAndV_t : fAndV e τ (.bl true) h = e τ h := rfl
@[simp] theorem fAndV_f : fAndV e τ (.bl false) h = .ok (.bl false) h := rfl
def fNotV : AV → AH → Res AV := fun v h => match v with
 | .bl b => .ok (.bl (!b)) h
 | _ => .stuck
@[simp] theorem mNotV_ev : mNotV e τ h = (e τ h).bind fNotV := rfl
@[simp] theorem fNotV_ev : fNotV (.bl b) h = .ok (.bl (!b)) h := rfl
@[simp] theorem mCall_ev {f : FN} : mCall f ea τ h = (ea τ h).bind f := rfl
@[simp] theorem chk_ev {N : Nat} {f : FN} : chk N f vs h = if vs.length = N then f vs h else .stuck := rfl
@[simp] theorem chkI_ev {N : Nat} {f : FI} : chkI N f vs h = if vs.length + 1 = N then f vs h else .stuck := rfl
def SRes.fin (r : SRes) : Res AV := match r with
 | .nx _ h' => .ok .non h'
 | .rt v h' => .ok v h'
 | .exc x fs _ h' => .exc x fs h'
 | _ => .stuck
@[simp] theorem fin_nx : (SRes.nx τ h).fin = .ok .non h := rfl
@[simp] theorem fin_rt : (SRes.rt v h).fin = .ok v h := rfl
@[simp] theorem fin_exc {x : XC} {fs : List (Nat × AV)} : (SRes.exc x fs τ h).fin = .exc x fs h := rfl
@[simp] theorem runF_ev {N : Nat} : runF N m vs h = (m (vs.map some ++ List.replicate (N - vs.length) none) h).fin := rfl
def SRes.finI (k : Nat) (r : SRes) : Res (List (Nat × AV)) := match r with
  | .nx τ h' => match τ with
    | some (.mI k' fs) :: _ => if k' = k then .ok fs h' else .stuck
    | _ => .stuck
  | .exc x fs _ h' => .exc x fs h'
  | _ => .stuck
@[simp] theorem finI_nx {k k' : Nat} {fs : List (Nat × AV)} : (SRes.nx (some (.mI k' fs) :: τ) h).finI k = if k' = k then .ok fs h else .stuck := rfl
@[simp] theorem finI_exc {k : Nat} {x : XC} {fs : List (Nat × AV)} : (SRes.exc x fs τ h).finI k = .exc x fs h := rfl
@[simp] theorem runI_ev {N k : Nat} : runI N k m vs h = (m (some (.mI k []) :: vs.map some ++ List.replicate (N - (vs.length + 1)) none) h).finI k := rfl
def fMk2 (k : Nat) : List (Nat × AV) → AH → Res AV := fun fs h => .ok (.obj k fs) h
@[simp] theorem fMk2_ev {k : Nat} {fs : List (Nat × AV)} : fMk2 k fs h = .ok (.obj k fs) h := rfl
def Res.made (n : Nat) (r : Res AV) : Res AV := match r with
 | .ok .non h' => .ok (.ref n) h'
 | .exc x fs h' => .exc x fs h'
 | _ => .stuck
@[simp] theorem made_ok {n : Nat} : (Res.ok .non h).made n = .ok (.ref n) h := rfl
@[simp] theorem made_exc {n : Nat} {x : XC} {fs : List (Nat × AV)} : (Res.exc x fs h).made n = .exc x fs h := rfl
def fMkR (k : Nat) (f : FN) : List AV → AH → Res AV := fun vs h => (f (.ref h.length :: vs) (h ++ [some (.ins k [])])).made h.length
@[simp] theorem mMkR_ev {k : Nat} {f : FN} : mMkR k f ea τ h = (ea τ h).bind (fMkR k f) := rfl
@[simp] theorem fMkR_ev {k : Nat} {f : FN} : fMkR k f vs h = (f (.ref h.length :: vs) (h ++ [some (.ins k [])])).made h.length := rfl
def fMet2 (f : FN) (v : AV) : List AV → AH → Res AV := fun vs h => f (v :: vs) h
def fMet (k m : Nat) (f : FN) (ma : MA) (τ : AS) : AV → AH → Res AV := fun v h => match fldsOf v h with
 | some (k', fs) => if k' = k ∧ (fs.lookup m).isNone then (ma τ h).bind (fMet2 f v) else .stuck
 | none => .stuck
@[simp] theorem mMet_ev {k m : Nat} {f : FN} : mMet k m f e ea τ h = (e τ h).bind (fMet k m f ea τ) := rfl
@[simp] theorem fMet_ev {k m : Nat} {f : FN} : fMet k m f ea τ v h = match fldsOf v h with
 | some (k', fs) => if k' = k ∧ (fs.lookup m).isNone then (ea τ h).bind (fMet2 f v) else .stuck
 | none => .stuck := rfl
@[simp] theorem fMet2_ev {f : FN} : fMet2 f v vs h = f (v :: vs) h := rfl
@[simp] theorem fldsOf_obj {k : Nat} {fs : List (Nat × AV)} : fldsOf (.obj k fs) h = some (k, fs) := rfl
@[simp] theorem fldsOf_ref {n : Nat} : fldsOf (.ref n) h = match h[n]? with | some (some (.ins k fs)) => some (k, fs) | _ => none := rfl
def fFld (ks : List Nat) (f : Nat) : AV → AH → Res AV := fun v h => match fldsOf v h with
 | some (k, fs) => if ks.contains k then (match fs.lookup f with | some w => .ok w h | none => .stuck) else .stuck
 | none => .stuck
@[simp] theorem mFld_ev {ks : List Nat} {f : Nat} : mFld ks f e τ h = (e τ h).bind (fFld ks f) := rfl
@[simp] theorem fFld_ev {ks : List Nat} {f : Nat} : fFld ks f v h = match fldsOf v h with
 | some (k, fs) => if ks.contains k then (match fs.lookup f with | some w => .ok w h | none => .stuck) else .stuck
 | none => .stuck := rfl
@[simp] theorem mKill_ev : mKill e τ h = (e τ h).bind killA := rfl
@[simp] theorem killA_ref {n : Nat} : killA (.ref n) h = match h[n]? with
  | some (some (.lst xs)) => .ok (.fl xs) (h.set n none)
  | some (some (.dk xs)) => .ok (.fd xs) (h.set n none)
  | some (some (.ins k fs)) => .ok (.obj k fs) (h.set n none)
  | _ => .stuck := rfl
@[simp] theorem killA_non : killA .non h = .ok .non h := rfl
@[simp] theorem killA_bl : killA (.bl b) h = .ok (.bl b) h := rfl
@[simp] theorem killA_int {i : Int} : killA (.int i) h = .ok (.int i) h := rfl
@[simp] theorem killA_str {i : Str} : killA (.str i) h = .ok (.str i) h := rfl
@[simp] theorem killA_fl {i : List AV} : killA (.fl i) h = .ok (.fl i) h := rfl
@[simp] theorem killA_tup {i : List AV} : killA (.tup i) h = .ok (.tup i) h := rfl
def fMt (k : AV → AH → Option (List AV)) : AV → AH → Res (List AV) := fun v h => match k v h with
 | some vs => .ok vs h
 | none => .stuck
@[simp] theorem mIt_ev {k : AV → AH → Option (List AV)} : mIt k e τ h = (e τ h).bind (fMt k) := rfl
@[simp] theorem fMt_ev {k : AV → AH → Option (List AV)} : fMt k v h = match k v h with | some vs => .ok vs h | none => .stuck := rfl
@[simp] theorem itL_fl : itL (.fl vs) h = some vs := rfl
@[simp] theorem itS_str {z : Str} : itS (.str z) h = some (z.cps.toList.map fun k => .str ⟨#[k]⟩) := rfl
def fEnumA : List AV → AH → Res (List AV) := fun vs h => match vs with
 | [.fl xs] => .ok (enumA xs) h
 | [.tup xs] => .ok (enumA xs) h
 | _ => .stuck
@[simp] theorem mEnumA_ev : mEnumA ea τ h = (ea τ h).bind fEnumA := rfl
@[simp] theorem fEnumA_fl : fEnumA [.fl vs] h = .ok (enumA vs) h := rfl
@[simp] theorem fEnumA_tup : fEnumA [.tup vs] h = .ok (enumA vs) h := rfl
def fRng1 : List AV → AH → Res (List AV) := fun vs h => match vs with
 | [.int j] => if rOk j then .ok (rngA 0 j) h else .stuck
 | _ => .stuck
@[simp] theorem mRng1_ev : mRng1 ea τ h = (ea τ h).bind fRng1 := rfl
@[simp] theorem fRng1_ev {j : Int} : fRng1 [.int j] h = if rOk j then .ok (rngA 0 j) h else .stuck := rfl
@[simp] theorem mExF_ev {ks : List Nat} {f : Nat} : mExF ks i f τ h = match τ[i]? with
 | some (some (.mE (.own k) fs)) => if ks.contains k then (match fs.lookup f with | some v => if plainV v then .ok v h else .stuck | none => .stuck) else .stuck
 | _ => .stuck := rfl
def fM1b (k : Str → AV → AH → Option (AV × AH)) (a : Str) : AV → AH → Res AV := fun w h => .of (k a w h)
def fM1 (k : Str → AV → AH → Option (AV × AH)) (me : ME) (τ : AS) : AV → AH → Res AV := fun v h => match v with
 | .str a => (me τ h).bind (fM1b k a)
 | _ => .stuck
@[simp] theorem mM1_ev {k : Str → AV → AH → Option (AV × AH)} : mM1 k e e2 τ h = (e τ h).bind (fM1 k e2 τ) := rfl
@[simp] theorem fM1_ev {k : Str → AV → AH → Option (AV × AH)} {a : Str} : fM1 k e2 τ (.str a) h = (e2 τ h).bind (fM1b k a) := rfl
@[simp] theorem fM1b_ev {k : Str → AV → AH → Option (AV × AH)} {a : Str} : fM1b k a v h = .of (k a v h) := rfl
def fBMl2 (k : Nat → List AV → AH → Option (AV × AH)) (n : Nat) : List AV → AH → Res AV := fun vs h => .of (k n vs h)
def fBMl (k : Nat → List AV → AH → Option (AV × AH)) (ma : MA) (τ : AS) : AV → AH → Res AV := fun v h => match v with
  | .ref n => match h[n]? with
    | some (some (.lst _)) => (ma τ h).bind (fBMl2 k n)
    | _ => .stuck
  | _ => .stuck
@[simp] theorem mBMl_ev {k : Nat → List AV → AH → Option (AV × AH)} : mBMl k e ea τ h = (e τ h).bind (fBMl k ea τ) := rfl
@[simp] theorem fBMl_ev {k : Nat → List AV → AH → Option (AV × AH)} {n : Nat} : fBMl k ea τ (.ref n) h = match h[n]? with
  | some (some (.lst _)) => (ea τ h).bind (fBMl2 k n)
  | _ => .stuck := rfl
@[simp] theorem fBMl2_ev {k : Nat → List AV → AH → Option (AV × AH)} {n : Nat} : fBMl2 k n vs h = .of (k n vs h) := rfl
def fLc (g : MG) (mt : MT) (me : ME) (τ : AS) : List AV → AH → Res AV := fun xs h => lcL g mt me τ xs [] h
@[simp] theorem mLc_ev {is : List Nat} : mLc is g ea et e τ h = (ea τ h).bind (fLc g et e (wipeA τ is)) := rfl
@[simp] theorem fLc_ev : fLc g et e τ vs h = lcL g et e τ vs [] h := rfl
@[simp] theorem wipeA_nil : wipeA τ [] = τ := rfl
@[simp] theorem wipeA_cons {is : List Nat} : wipeA τ (i :: is) = (wipeA τ is).set i none := rfl
@[simp] theorem mYes_ev : mYes τ h = .ok true h := rfl
def fChain2 (k k' : AV → AV → AH → Option (AV × AH)) (mc : ME) (τ : AS) (v : AV) : AV → AH → Res AV := fun w h => (Res.of (k v w h)).bind (chT k' mc τ w)
def fChain (k k' : AV → AV → AH → Option (AV × AH)) (mb mc : ME) (τ : AS) : AV → AH → Res AV := fun v h => (mb τ h).bind (fChain2 k k' mc τ v)
@[simp] theorem mChain_ev {k k' : AV → AV → AH → Option (AV × AH)} : mChain k k' e e2 e3 τ h = (e τ h).bind (fChain k k' e2 e3 τ) := rfl
@[simp] theorem fChain_ev {k k' : AV → AV → AH → Option (AV × AH)} : fChain k k' e2 e3 τ v h = (e2 τ h).bind (fChain2 k k' e3 τ v) := rfl
@[simp] theorem fChain2_ev {k k' : AV → AV → AH → Option (AV × AH)} : fChain2 k k' e3 τ v w h = (Res.of (k v w h)).bind (chT k' e3 τ w) := rfl
@[simp] theorem chT_t {k' : AV → AV → AH → Option (AV × AH)} : chT k' e τ w (.bl true) h = (e τ h).bind (fBin2 k' w) := rfl
@[simp] theorem chT_f {k' : AV → AV → AH → Option (AV × AH)} : chT k' e τ w (.bl false) h = .ok (.bl false) h := rfl
def fSl3 (v : AV) (l : Option Int) : Option Int → AH → Res AV := fun u h => .of (kSl v l u h)
def fSl2 (hi : MO) (τ : AS) (v : AV) : Option Int → AH → Res AV := fun l h => (mO hi τ h).bind (fSl3 v l)
def fSl (lo hi : MO) (τ : AS) : AV → AH → Res AV := fun v h => (mO lo τ h).bind (fSl2 hi τ v)
@[simp] theorem mSl_ev {lo hi : MO} : mSl e lo hi τ h = (e τ h).bind (fSl lo hi τ) := rfl
@[simp] theorem fSl_ev {lo hi : MO} : fSl lo hi τ v h = (mO lo τ h).bind (fSl2 hi τ v) := rfl
@[simp] theorem fSl2_ev {hi : MO} {l : Option Int} : fSl2 hi τ v l h = (mO hi τ h).bind (fSl3 v l) := rfl
@[simp] theorem fSl3_ev {l r : Option Int} : fSl3 v l r h = .of (kSl v l r h) := rfl
def fO : AV → AH → Res (Option Int) := fun w h => match w with
  | .int i => .ok (some i) h
  | _ => .stuck
@[simp] theorem mO_non : mO none τ h = .ok none h := rfl
@[simp] theorem mO_som : mO (some e) τ h = (e τ h).bind fO := rfl
@[simp] theorem fO_ev {i : Int} : fO (.int i) h = .ok (some i) h := rfl
@[simp] theorem lookup_cons' {k j : Nat} {w : AV} {r : List (Nat × AV)} : List.lookup k ((j, w) :: r) = if k = j then some w else List.lookup k r := by
 by_cases q : k = j
 ·subst q; simp [List.lookup]
 ·have : (k == j) = false := by simpa using q
  simp [List.lookup, this, q]
@[simp] theorem lookup_nil' {k : Nat} : List.lookup k ([] : List (Nat × AV)) = none := rfl
@[simp] theorem plv_non : plainV .non = true := rfl
@[simp] theorem plv_bl : plainV (.bl b) = true := rfl
@[simp] theorem plv_int {i : Int} : plainV (.int i) = true := rfl
@[simp] theorem plv_str {i : Str} : plainV (.str i) = true := rfl
@[simp] theorem plv_tup {i : List AV} : plainV (.tup i) = true := rfl
@[simp] theorem plv_fl {i : List AV} : plainV (.fl i) = true := rfl
@[simp] theorem plv_fd {i : List (Key × AV)} : plainV (.fd i) = true := rfl
@[simp] theorem plv_ref {i : Nat} : plainV (.ref i) = true := rfl
@[simp] theorem plv_cls {i : Nat} : plainV (.cls i) = true := rfl
@[simp] theorem plv_ty {i : String} : plainV (.ty i) = true := rfl
@[simp] theorem plv_obj {i : Nat} {fs : List (Nat × AV)} : plainV (.obj i fs) = true := rfl
@[simp] theorem small_lit {n : Nat} : small n = decide (n ≤ 16777216) := rfl
@[simp] theorem kTup_ev : kTup vs h = if small vs.length then some (.tup vs, h) else none := rfl
@[simp] theorem kFl_ev : kFl vs h = if small vs.length then some (.fl vs, h) else none := rfl
@[simp] theorem kLst_ev : kLst vs h = if small vs.length then some (.ref h.length, h ++ [some (.lst vs)]) else none := rfl
@[simp] theorem kLen_tup : kLen [.tup vs] h = some (.int vs.length, h) := rfl
@[simp] theorem kLen_fl : kLen [.fl vs] h = some (.int vs.length, h) := rfl
@[simp] theorem kLen_str {x : Str} : kLen [.str x] h = if strS x.length then some (.int x.length, h) else none := rfl
@[simp] theorem kLen_ref {n : Nat} : kLen [.ref n] h = match h[n]? with | some (some (.lst xs)) => some (.int xs.length, h) | _ => none := rfl
@[simp] theorem kIx_tup {i : Int} : kIx (.tup vs) (.int i) h = (atI vs i).map fun v => (v, h) := rfl
@[simp] theorem kIx_fl {i : Int} : kIx (.fl vs) (.int i) h = (atI vs i).map fun v => (v, h) := rfl
@[simp] theorem kIx_ref {n : Nat} {i : Int} : kIx (.ref n) (.int i) h = match h[n]? with | some (some (.lst xs)) => (atI xs i).map fun v => (v, h) | _ => none := rfl
@[simp] theorem atI_ev {α : Type} {xs : List α} {i : Int} : atI xs i = (ixN xs.length i).bind fun j => xs[j]? := rfl
@[simp] theorem ixN_ev {n : Nat} {i : Int} : ixN n i = if 0 ≤ i then (if i < n then some i.toNat else none) else if -(n : Int) ≤ i then some (i + n).toNat else none := rfl
@[simp] theorem kInt_ev {i : Int} : kInt [.int i] h = some (.int i, h) := rfl
@[simp] theorem kAbs_ev {i : Int} : kAbs [.int i] h = some (.int (if i < 0 then -i else i), h) := rfl
@[simp] theorem kMax2_ev {i j : Int} : kMax2 [.int i, .int j] h = some (.int (if j > i then j else i), h) := rfl
@[simp] theorem kMin2_ev {i j : Int} : kMin2 [.int i, .int j] h = some (.int (if j < i then j else i), h) := rfl
@[simp] theorem kLt_ev {i j : Int} : kLt (.int i) (.int j) h = some (.bl (decide (i < j)), h) := rfl
@[simp] theorem kLe_ev {i j : Int} : kLe (.int i) (.int j) h = some (.bl (decide (i ≤ j)), h) := rfl
@[simp] theorem kGt_ev {i j : Int} : kGt (.int i) (.int j) h = some (.bl (decide (j < i)), h) := rfl
@[simp] theorem kGe_ev {i j : Int} : kGe (.int i) (.int j) h = some (.bl (decide (j ≤ i)), h) := rfl
@[simp] theorem kIsN_ev : kIsN v .non h = some (.bl (isNone v), h) := rfl
@[simp] theorem kNotN_ev : kNotN v .non h = some (.bl (!isNone v), h) := rfl
@[simp] theorem isNone_non : isNone .non = true := rfl
@[simp] theorem isNone_bl : isNone (.bl b) = false := rfl
@[simp] theorem isNone_int {i : Int} : isNone (.int i) = false := rfl
@[simp] theorem isNone_str {i : Str} : isNone (.str i) = false := rfl
@[simp] theorem isNone_tup : isNone (.tup vs) = false := rfl
@[simp] theorem isNone_fl : isNone (.fl vs) = false := rfl
@[simp] theorem isNone_ref {n : Nat} : isNone (.ref n) = false := rfl
@[simp] theorem isNone_obj {n : Nat} {fs : List (Nat × AV)} : isNone (.obj n fs) = false := rfl
@[simp] theorem kAdd_int {i j : Int} : kAdd (.int i) (.int j) h = some (.int (i + j), h) := rfl
@[simp] theorem kAdd_str {x y : Str} : kAdd (.str x) (.str y) h = if small (x.length + y.length) then some (.str (x ++ y), h) else none := rfl
@[simp] theorem kAdd_fl : kAdd (.fl vs) (.fl ws) h = if small (vs.length + ws.length) then some (.fl (vs ++ ws), h) else none := rfl
@[simp] theorem kAdd_tup : kAdd (.tup vs) (.tup ws) h = if small (vs.length + ws.length) && !vs.isEmpty then some (.tup (vs ++ ws), h) else none := rfl
@[simp] theorem kSub_ev {i j : Int} : kSub (.int i) (.int j) h = some (.int (i - j), h) := rfl
@[simp] theorem kMul_int {i j : Int} : kMul (.int i) (.int j) h = if mulOk i j then some (.int (i * j), h) else none := rfl
@[simp] theorem kMul_str {x : Str} {n : Int} : kMul (.str x) (.int n) h = if decide (0 ≤ n ∧ n ≤ 10000 ∧ x.length ≤ 1000) then some (.str (Txt.mul x n), h) else none := rfl
@[simp] theorem mulOk_ev {i j : Int} : mulOk i j = decide ((-18446744073709551616 < i ∧ i < 18446744073709551616) ∨ (-18446744073709551616 < j ∧ j < 18446744073709551616)) := rfl
@[simp] theorem kFdiv_ev {i j : Int} : kFdiv (.int i) (.int j) h = if decide (0 < j ∧ j < 10 ^ 60) then some (.int (i / j), h) else none := rfl
@[simp] theorem kMod_ev {i j : Int} : kMod (.int i) (.int j) h = if decide (0 < j) then some (.int (i % j), h) else none := rfl
@[simp] theorem kPow_ev {i j : Int} : kPow (.int i) (.int j) h = if decide (0 ≤ j ∧ j ≤ 1000000 ∧ -18446744073709551616 < i ∧ i < 18446744073709551616) then some (.int (i ^ j.toNat), h) else none := rfl
@[simp] theorem kNeg_ev {i : Int} : kNeg (.int i) h = some (.int (-i), h) := rfl
@[simp] theorem kListR_fl : kListR [.fl vs] h = if small vs.length then some (.ref h.length, h ++ [some (.lst vs)]) else none := rfl
@[simp] theorem kListR_tup : kListR [.tup vs] h = if small vs.length then some (.ref h.length, h ++ [some (.lst vs)]) else none := rfl
@[simp] theorem kListR_str {z : Str} : kListR [.str z] h = if small (z.cps.toList.map fun k => AV.str ⟨#[k]⟩).length then some (.ref h.length, h ++ [some (.lst (z.cps.toList.map fun k => AV.str ⟨#[k]⟩))]) else none := rfl
@[simp] theorem kListR_ref {n : Nat} : kListR [.ref n] h = (match h[n]? with | some (some (.lst xs)) => some xs | _ => none : Option (List AV)).bind fun xs => if small xs.length then some (.ref h.length, h ++ [some (.lst xs)]) else none := rfl
@[simp] theorem kEq_str (x y : Str) (h : AH) : kEq (.str x) (.str y) h = some (.bl (decide (x = y)), h) := by
 rw [show decide (x = y) = (x == y) from by by_cases e : x = y <;> simp [e]]; rfl
@[simp] theorem kEq_int (x y : Int) (h : AH) : kEq (.int x) (.int y) h = some (.bl (decide (x = y)), h) := by
 rw [show decide (x = y) = (x == y) from by by_cases e : x = y <;> simp [e]]; rfl
@[simp] theorem kNe_str (x y : Str) (h : AH) : kNe (.str x) (.str y) h = some (.bl (!decide (x = y)), h) := by
 rw [show decide (x = y) = (x == y) from by by_cases e : x = y <;> simp [e]]; rfl
@[simp] theorem kNe_int (x y : Int) (h : AH) : kNe (.int x) (.int y) h = some (.bl (!decide (x = y)), h) := by
 rw [show decide (x = y) = (x == y) from by by_cases e : x = y <;> simp [e]]; rfl
end
theorem looks_forIn {α β : Type} {M : Model} {h : Heap} {f : α → β → Sem (ForInStep β)} {g : β → α → β} : ∀ (l : List α) (b : β), (∀ (pre : List α) (a : α) (post : List α), l = pre ++ a :: post → PySem.W.Looks M h (f a (pre.foldl g b)) (.yield (g (pre.foldl g b) a))) → PySem.W.Looks M h (forIn l b f) (l.foldl g b)
 | [], b, _ => by
  rw [List.forIn_nil]
  exact .now
 | a :: l, b, H => by
  rw [List.forIn_cons]
  refine PySem.W.Looks.andThen (H [] a l rfl) ?_
  exact looks_forIn l (g b a) fun pre a' post e => H (a :: pre) a' post (by rw [e]; rfl)
abbrev Slots := List (Str × Value)
def addD (s : Slots) (q : Str × Value) : Slots := if (s.lookup q.1).isNone = true then s ++ [q] else s
theorem lookup_app {n : Str} : ∀ (a b : Slots), (a ++ b).lookup n = match a.lookup n with | some v => some v | none => b.lookup n
 | [], b => rfl
 | (k, v) :: a, b => by
  rw [List.cons_append, List.lookup_cons, List.lookup_cons]
  cases n == k with
  | true => rfl
  | false => exact lookup_app a b
theorem lookup_addD {n : Str} : ∀ (l s : Slots), (l.foldl addD s).lookup n = (s ++ l).lookup n
 | [], s => by simp
 | q :: l, s => by
  rw [List.foldl_cons, lookup_addD l (addD s q)]
  unfold addD
  split
  ·rw [List.append_assoc]; rfl
  ·rename_i h
   rw [lookup_app, lookup_app]
   cases e : s.lookup n with
   | some v => rfl
   | none =>
    simp only
    obtain ⟨k, v⟩ := q
    rw [List.lookup_cons]
    cases e2 : n == k with
    | false => rfl
    | true =>
     have : n = k := by simpa using e2
     subst this
     rw [e] at h
     exact absurd rfl h
def KwV (M : Model) (h : Heap) (kd : Value) (n : Str) (v : Value) : Prop := ∃ d : Addr, kd = .ref d ∧ PySem.W.Looks M h (nsGet d n) (some v)
theorem fold_kw : ∀ (l s e : Slots), l.foldl (fun (s : Slots × Slots) q => (s.1 ++ [q], s.2)) (s, e) = (s ++ l, e)
 | [], s, e => by simp
 | q :: l, s, e => by rw [List.foldl_cons, fold_kw l]; simp
def addK (kdv : Str → Value) (s : Slots × List Str) (n : Str) : Slots × List Str := (addD s.1 (n, kdv n), s.2)
theorem fold_addK (kdv : Str → Value) : ∀ (l : List Str) (s : Slots) (e : List Str), l.foldl (addK kdv) (s, e) = ((l.map fun n => (n, kdv n)).foldl addD s, e)
 | [], s, e => rfl
 | n :: l, s, e => by rw [List.foldl_cons, addK, fold_addK kdv l]; rfl
theorem looks_bind {M : Model} {h : Heap} {fd : FuncData} {us : List Value} {kw : Slots} {pn kn : List Str} {its : List Value} {kdv : Str → Value} (hpo : fd.params.posonlyargs = []) (hva : fd.params.vararg = none) (hkw : fd.params.kwarg = none)
  (hpn : fd.params.args.map (fun x => x.arg) = pn) (hkn : fd.params.kwonlyargs.map (fun x => x.arg) = kn) (hu : us.length ≤ pn.length) (hk : ∀ q, q ∈ kw → (pn.contains q.1 || kn.contains q.1) = true)
  (hnd : ∀ (pre : Slots) (q : Str × Value) (post : Slots), kw = pre ++ q :: post → ((pn.zip us ++ pre).lookup q.1) = none)
  (hd : ∃ o : Option (Array Value), PySem.W.Looks M h (seqItems? fd.defaults) o ∧ (o.getD #[]).toList = its) (hit : its.length ≤ pn.length)
  (hreq : ∀ n, n ∈ pn.take (pn.length - its.length) → ((pn.zip us ++ kw).lookup n).isNone = false)
  (hkd : ∀ n, n ∈ kn → ((pn.zip us ++ kw ++ (pn.drop (pn.length - its.length)).zip its).lookup n).isNone = true → KwV M h fd.kwdefaults n (kdv n)) :
  PySem.W.Looks M h (bindArgs fd ⟨us, kw⟩) ((pn ++ kn).filterMap fun n => ((pn.zip us ++ kw ++ (pn.drop (pn.length - its.length)).zip its ++ kn.map fun n => (n, kdv n)).lookup n).map (n, ·)) := by
 obtain ⟨o, ho, hoi⟩ := hd
 unfold bindArgs
 simp only [hpo, hva, hkw, hpn, hkn, List.map_nil, List.nil_append]
 refine PySem.W.Looks.andThen (a := kw.foldl (fun (s : Slots × Slots) (q : Str × Value) => (s.1 ++ [q], s.2)) (pn.zip us, [])) (looks_forIn (g := fun (s : Slots × Slots) (q : Str × Value) => (s.1 ++ [q], s.2)) kw (pn.zip us, []) fun pre a post epre => ?_) ?_
 ·rw [fold_kw]
  have h1 := hk a (by rw [epre]; simp)
  have h2 := hnd pre a post epre
  simp only [h1, h2, if_true, Option.isSome_none, Bool.false_eq_true, if_false]
  exact .now
 rw [fold_kw]
 refine PySem.W.Looks.andThen ho ?_
 simp only [hoi]
 have hz : its.length - pn.length = 0 := by omega
 have hgt : ¬ (us.length > pn.length) := by omega
 simp only [hz, List.drop_zero, Option.isNone_none, Bool.and_true, decide_eq_true_eq, hgt, if_false]
 have hmiss : (pn.take (pn.length - its.length)).filter (fun n => (List.lookup n (pn.zip us ++ kw)).isNone) = [] := by
  rw [List.filter_eq_nil_iff]
  intro n hn
  rw [hreq n hn]
  simp
 simp only [hmiss, List.isEmpty_nil, Bool.not_true, Bool.false_eq_true, if_false]
 refine PySem.W.Looks.andThen (a := ((pn.drop (pn.length - its.length)).zip its).foldl addD (pn.zip us ++ kw)) ?_ ?_
 ·refine looks_forIn (g := addD) _ _ fun pre a post _ => ?_
  unfold addD
  split
  ·exact .now
  ·exact .now
 refine PySem.W.Looks.andThen (a := kn.foldl (addK kdv) (((pn.drop (pn.length - its.length)).zip its).foldl addD (pn.zip us ++ kw), [])) ?_ ?_
 ·refine looks_forIn (g := addK kdv) _ _ fun pre n post epre => ?_
  rw [fold_addK]
  generalize hS0 : (pre.map fun n => (n, kdv n)).foldl addD (((pn.drop (pn.length - its.length)).zip its).foldl addD (pn.zip us ++ kw)) = S0
  unfold addK addD
  split
  ·rename_i hnone
   have hn : n ∈ kn := by rw [epre]; simp
   have hS : ((pn.zip us ++ kw ++ (pn.drop (pn.length - its.length)).zip its).lookup n).isNone = true := by
    have q : (S0.lookup n).isNone = true := hnone
    rw [← hS0, lookup_addD, lookup_app, lookup_addD] at q
    cases e : (pn.zip us ++ kw ++ (pn.drop (pn.length - its.length)).zip its).lookup n with
    | none => rfl
    | some v => rw [e] at q; exact absurd q (by simp)
   obtain ⟨d, ed, hl⟩ := hkd n hn hS
   rw [ed]
   refine PySem.W.Looks.andThen hl ?_
   exact .now
  ·exact .now
 rw [fold_addK]
 simp only [List.isEmpty_nil, Bool.not_true, Bool.false_eq_true, if_false]
 refine .of_pure ?_
 congr 1
 congr 1
 funext n
 rw [lookup_addD, lookup_app, lookup_addD, ← lookup_app]
theorem lookup_zip {n : Str} : ∀ (N : List Str) (vs : List Value), N.length = vs.length → (N.zip vs).lookup n = (N.findIdx? (· == n)).bind (vs[·]?)
 | [], [], _ => rfl
 | k :: N, v :: vs, h => by
  rw [List.zip_cons_cons, List.lookup_cons, List.findIdx?_cons]
  by_cases e : k = n
  ·subst e; simp
  ·have e1 : (n == k) = false := by simpa using fun q => e q.symm
   have e2 : (k == n) = false := by simpa using e
   rw [e1, e2, lookup_zip N vs (by simpa using h)]
   simp only [Bool.false_eq_true, if_false]
   cases N.findIdx? (· == n) <;> rfl
 | [], _ :: _, h => by cases h
 | _ :: _, [], h => by cases h
def pkOf (N ps : List Str) : List Nat := ps.map fun n => (N.findIdx? (· == n)).getD 0
theorem pick_zip (N : List Str) (vs : List Value) (h : N.length = vs.length) : ∀ ps : List Str, (∀ n, n ∈ ps → n ∈ N) → ps.filterMap (fun n => ((N.zip vs).lookup n).map (n, ·)) = ps.zip (pickL (pkOf N ps) vs)
 | [], _ => rfl
 | n :: ps, H => by
  have ih := pick_zip N vs h ps fun m hm => H m (by simp [hm])
  have hn := H n (by simp)
  obtain ⟨i, hi⟩ : ∃ i, N.findIdx? (· == n) = some i := by
   cases e : N.findIdx? (· == n) with
   | some i => exact ⟨i, rfl⟩
   | none =>
    rw [List.findIdx?_eq_none_iff] at e
    have := e n hn
    simp at this
  have hlt : i < N.length := by
   have := List.findIdx?_eq_some_iff_getElem.mp hi
   exact this.1
  have hv : vs[i]? = some vs[i] := List.getElem?_eq_getElem (by omega)
  rw [List.filterMap_cons, lookup_zip N vs h, hi]
  simp only [Option.bind_some, hv, Option.map_some, ih]
  have e1 : pkOf N (n :: ps) = i :: pkOf N ps := by unfold pkOf; rw [List.map_cons, hi]; rfl
  rw [e1]
  unfold pickL
  rw [List.filterMap_cons_some hv, List.zip_cons_cons]
def nodupS : List Str → Bool
 | [] => true
 | a :: r => !r.contains a && nodupS r
theorem nodupS_of : ∀ {l : List Str}, nodupS l = true → l.Nodup
 | [], _ => List.nodup_nil
 | a :: r, h => by
  unfold nodupS at h
  rw [Bool.and_eq_true] at h
  refine List.nodup_cons.mpr ⟨fun q => ?_, nodupS_of h.2⟩
  have := h.1
  simp [q] at this
def bindOk (pn kn ks dk : List Str) (n d : Nat) : Bool :=
 decide (n ≤ pn.length) && decide (d ≤ pn.length) && ks.all (fun k => pn.contains k || kn.contains k) && nodupS (pn.take n ++ ks) && (pn.take (pn.length - d)).all (fun m => (pn.take n ++ ks).contains m) && kn.all (fun m => ks.contains m || dk.contains m)
theorem lookup_none {n : Str} : ∀ {l : Slots}, l.lookup n = none ↔ n ∉ l.map (·.1)
 | [] => by simp
 | (k, v) :: l => by
  rw [List.lookup_cons, List.map_cons, List.mem_cons]
  by_cases e : n = k
  ·subst e; simp
  ·have : (n == k) = false := by simpa using e
   rw [this]
   simp only [lookup_none (l := l), e, false_or]
theorem map_zip {N : List Str} {vs : List Value} (h : N.length ≤ vs.length) : (N.zip vs).map (·.1) = N := by
 rw [List.map_fst_zip]; exact h
theorem zip_take' : ∀ (pn : List Str) (us : List Value), pn.zip us = (pn.take us.length).zip us
 | [], us => by simp
 | p :: pn, [] => by simp
 | p :: pn, u :: us => by
  rw [List.length_cons, List.take_succ_cons, List.zip_cons_cons, List.zip_cons_cons, zip_take' pn us]
theorem zip_take {pn : List Str} {us : List Value} : pn.zip us = (pn.take us.length).zip us := zip_take' pn us
theorem map_pair (f : Str → Value) : ∀ l : List Str, l.map (fun m => (m, f m)) = l.zip (l.map f)
 | [] => rfl
 | m :: l => by rw [List.map_cons, List.map_cons, List.zip_cons_cons, map_pair f l]
theorem kdv_vals {kws : List (Str × V)} {kv : List Value} (r : Vals (kws.map (·.2)) kv) (m : Str) : RelV ((kws.lookup m).getD .non) ((((kws.map (·.1)).zip kv).lookup m).getD .none) := by
 induction kws generalizing kv with
 | nil => cases r; exact rfl
 | cons q kws ih =>
  obtain ⟨k, v⟩ := q
  cases r with
  | cons ru rr =>
   rename_i u us
   rw [List.lookup_cons]
   show RelV _ ((List.lookup m ((k, u) :: (kws.map (·.1)).zip us)).getD .none)
   rw [List.lookup_cons]
   cases m == k with
   | true => exact ru
   | false => exact ih rr
theorem vals_map {kws : List (Str × V)} {kv : List Value} (r : Vals (kws.map (·.2)) kv) : ∀ kn : List Str, Vals (kn.map fun m => (kws.lookup m).getD .non) (kn.map fun m => (((kws.map (·.1)).zip kv).lookup m).getD .none)
 | [] => .nil
 | m :: kn => .cons (kdv_vals r m) (vals_map r kn)
theorem kb_gen {K : PySem.W.Frag} {x qual : Str} {params : Arguments} {body : List Stmt} {scope : Scope} {dvs : List V} {kws : List (Str × V)} {f : Addr} {fd : FuncData} (F : FunD K x qual params body scope dvs kws f fd) {pn kn : List Str} (n : Nat) (ks : List Str) (pk : List Nat)
    (hpo : params.posonlyargs = []) (hva : params.vararg = none) (hkw : params.kwarg = none) (hpn : params.args.map (fun x => x.arg) = pn) (hkn : params.kwonlyargs.map (fun x => x.arg) = kn)
    (ok : bindOk pn kn ks (kws.map (·.1)) n dvs.length = true) (hpk : pkOf (pn.take n ++ ks ++ pn.drop (pn.length - dvs.length) ++ kn) (pn ++ kn) = pk) :
    ∃ ds : List Value, Vals (dvs ++ kn.map fun m => (kws.lookup m).getD .non) ds ∧ KBn K fd (pn ++ kn) n ks (fun us ws => pickL pk (us ++ ws ++ ds)) (fun vs zs => pickL pk (vs ++ zs ++ (dvs ++ kn.map fun m => (kws.lookup m).getD .non))) := by
  unfold bindOk at ok
  simp only [Bool.and_eq_true, decide_eq_true_eq, List.all_eq_true, Bool.or_eq_true, List.contains_iff_mem] at ok
  obtain ⟨⟨⟨⟨⟨o1, o2⟩, o3⟩, o4⟩, o5⟩, o6⟩ := ok
  have o4 := nodupS_of o4
  obtain ⟨oc, od, dV, kV, doc, pm, an, cdv, ct, osl, rfl, lk, hcd, hD, hK⟩ := F.ex
  obtain ⟨its, ri, hits⟩ : ∃ its : List Value, Vals dvs its ∧ ∀ (M : Model) (h : Heap), K.In h → ∃ o : Option (Array Value), PySem.W.Looks M h (seqItems? dV) o ∧ (o.getD #[]).toList = its := by
    rcases hD with ⟨rfl, rfl⟩ | ⟨_, T, o, its, m, rfl, lT, oT, rT⟩
    · exact ⟨[], .nil, fun M h _ => ⟨none, .of_pure rfl, rfl⟩⟩
    · exact ⟨its, rT, fun M h X => ⟨some its.toArray, by have := looks_items (M := M) (k := fun r => pure r) X lT oT .now; simpa using this, by simp⟩⟩
  obtain ⟨kv, rk, hkv⟩ : ∃ kv : List Value, Vals (kws.map (·.2)) kv ∧ ∀ (M : Model) (h : Heap), K.In h → ∀ m, m ∈ kws.map (·.1) → KwV M h kV m ((((kws.map (·.1)).zip kv).lookup m).getD .none) := by
    rcases hK with rfl | ⟨D, rfl, hq⟩
    · exact ⟨[], .nil, fun _ _ _ m hm => absurd hm (by simp)⟩
    · obtain ⟨us, e, r, a⟩ := kwd_vals hq
      refine ⟨us, r, fun M h X m hm => ⟨D, rfl, ?_⟩⟩
      have hl : ((kws.map (·.1)).zip us).map (·.1) = kws.map (·.1) := map_zip (by rw [List.length_map]; omega)
      cases e2 : ((kws.map (·.1)).zip us).lookup m with
      | none => rw [lookup_none, hl] at e2; exact absurd hm e2
      | some v =>
        have hmem : (m, v) ∈ (kws.map (·.1)).zip us := by
          have : ∀ {l : Slots}, l.lookup m = some v → (m, v) ∈ l := by
            intro l
            induction l with
            | nil => intro q; simp at q
            | cons p l ih =>
              intro q
              obtain ⟨k, w⟩ := p
              rw [List.lookup_cons] at q
              split at q
              · rename_i e3
                have : m = k := by simpa using e3
                subst this
                cases q
                simp
              · exact List.mem_cons_of_mem _ (ih q)
          exact this e2
        exact PySem.W.looks_nsIn X (a (m, v) hmem)
  refine ⟨its ++ kn.map fun m => (((kws.map (·.1)).zip kv).lookup m).getD .none, ri.append (vals_map rk kn), ⟨fun s us ws X l1 l2 => ?_, fun r1 r2 => pick_vals ((r1.append r2).append (ri.append (vals_map rk kn))) pk⟩⟩
  have li := ri.length
  refine BindsTo.of_looks fun M => ?_
  have ks1 : (ks.zip ws).map (·.1) = ks := map_zip (by omega)
  have L := looks_bind (M := M) (h := s.heap) (fd := PySem.W.fnOf x qual params body scope dV kV doc pm an cdv ct) (us := us) (kw := ks.zip ws) (pn := pn) (kn := kn) (its := its) (kdv := fun m => (((kws.map (·.1)).zip kv).lookup m).getD .none) hpo hva hkw hpn hkn (by omega)
    (fun q hq => by
      have : q.1 ∈ ks := by rw [← ks1]; exact List.mem_map_of_mem hq
      simpa using o3 q.1 this)
    (fun pre q post e => by
      rw [lookup_none, List.map_append, zip_take, map_zip (by simp; omega), l1]
      have e3 : ks = pre.map (·.1) ++ q.1 :: post.map (·.1) := by rw [← ks1, e]; simp
      rw [e3, ← List.append_assoc, List.nodup_append] at o4
      exact fun hm => o4.2.2 _ hm _ (by simp) rfl)
    (hits M s.heap X) (by omega)
    (fun m hm => by
      have := o5 m (by rw [li]; exact hm)
      cases e : ((pn.zip us ++ ks.zip ws).lookup m) with
      | some v => rfl
      | none =>
        rw [lookup_none, List.map_append, zip_take, map_zip (by simp; omega), l1, ks1] at e
        exact absurd this e)
    (fun m hm e => by
      rcases o6 m hm with q | q
      · have e' := Option.isNone_iff_eq_none.mp e
        rw [lookup_none, List.map_append, List.map_append, ks1] at e'
        exact absurd (by simp [q]) e'
      · exact hkv M s.heap X m q)
  have hz : pn.zip us ++ ks.zip ws ++ (pn.drop (pn.length - its.length)).zip its ++ kn.map (fun m => (m, (((kws.map (·.1)).zip kv).lookup m).getD .none)) = (pn.take n ++ ks ++ pn.drop (pn.length - its.length) ++ kn).zip (us ++ ws ++ (its ++ kn.map fun m => (((kws.map (·.1)).zip kv).lookup m).getD .none)) := by
    rw [← List.append_assoc (us ++ ws), List.zip_append (by simp; omega), List.zip_append (by simp; omega), List.zip_append (by simp; omega), zip_take, l1]
    rw [map_pair]
  rw [hz, pick_zip _ _ (by simp; omega)] at L
  · rw [li] at hpk
    rw [hpk] at L
    exact L
  · intro m hm
    rcases List.mem_append.mp hm with hm | hm
    · rw [← List.take_append_drop (pn.length - its.length) pn] at hm
      rcases List.mem_append.mp hm with hm | hm
      · have := o5 m (by rw [li]; exact hm)
        simp only [List.mem_append] at this ⊢
        rcases this with q | q
        · exact .inl (.inl (.inl q))
        · exact .inl (.inl (.inr q))
      · simp only [List.mem_append]; exact .inl (.inr hm)
    · simp only [List.mem_append]; exact .inr hm
theorem gv_non {G : Gx} : GV G .non .non := fun _ => .non
structure KBD (G : Gx) (K : PySem.W.Frag) (fd : FuncData) (ps : List Str) (n : Nat) (ks : List Str) (pk : List Nat) (dws : List AV) : Prop where
 ex : ∃ (dvs : List V) (ds : List Value), Vals dvs ds ∧ GVs G dws dvs ∧ KBn K fd ps n ks (fun us ws => pickL pk (us ++ ws ++ ds)) (fun vs zs => pickL pk (vs ++ zs ++ dvs))
theorem kbd_of {G : Gx} {K : PySem.W.Frag} {x qual : Str} {params : Arguments} {body : List Stmt} {scope : Scope} {dvs : List V} {kws : List (Str × V)} {f : Addr} {fd : FuncData} {dws : List AV} (F : FunD K x qual params body scope dvs kws f fd) {pn kn : List Str} (n : Nat) (ks : List Str) (pk : List Nat)
  (hpo : params.posonlyargs = []) (hva : params.vararg = none) (hkw : params.kwarg = none) (hpn : params.args.map (fun x => x.arg) = pn) (hkn : params.kwonlyargs.map (fun x => x.arg) = kn)
  (ok : bindOk pn kn ks (kws.map (·.1)) n dvs.length = true) (hpk : pkOf (pn.take n ++ ks ++ pn.drop (pn.length - dvs.length) ++ kn) (pn ++ kn) = pk) (g : GVs G dws (dvs ++ kn.map fun m => (kws.lookup m).getD .non)) : KBD G K fd (pn ++ kn) n ks pk dws :=
 let ⟨ds, r, b⟩ := kb_gen F n ks pk hpo hva hkw hpn hkn ok hpk
 ⟨_, ds, r, g, b⟩
section
variable {G : Gx} {B : Bx} {zs : Addr → Prop} {W : WX} {X : Cx} {c c' : Cfg} {L : List Addr} {τ : AS} {σ : SL} {pos pos' p apos cpos : Pos} {e o a : Expr} {es : List Expr} {m n mo me : ME} {ma mi mk : MA} {mt : MT} {x s : Str} {i : Nat} {vs : List Nat}
theorem pick_succ {α : Type} (x : α) (l : List α) (pk : List Nat) : pickL (0 :: pk.map (· + 1)) (x :: l) = x :: pickL pk l := by
 unfold pickL
 rw [List.filterMap_cons_some (by rfl), List.filterMap_map]
 congr 1
def fMkN2 (kc n m : Nat) (f : FI) (pk : List Nat) (dws vs : List AV) : List AV → AH → Res AV := fun zs h => if vs.length = n ∧ zs.length = m then (f (pickL pk (vs ++ zs ++ dws)) h).bind (fMk2 kc) else .stuck
def fMkN1 (kc n m : Nat) (f : FI) (pk : List Nat) (dws : List AV) (mk : MA) (τ : AS) : List AV → AH → Res AV := fun vs h => (mk τ h).bind (fMkN2 kc n m f pk dws vs)
def mMkN (kc n m : Nat) (f : FI) (pk : List Nat) (dws : List AV) (ma mk : MA) : ME := fun τ h => (ma τ h).bind (fMkN1 kc n m f pk dws mk τ)
@[simp] theorem mMkN_ev {kc n m : Nat} {f : FI} {pk : List Nat} {dws : List AV} {h : AH} : mMkN kc n m f pk dws ma mk τ h = (ma τ h).bind (fMkN1 kc n m f pk dws mk τ) := rfl
@[simp] theorem fMkN1_ev {kc n m : Nat} {f : FI} {pk : List Nat} {dws vs : List AV} {h : AH} : fMkN1 kc n m f pk dws mk τ vs h = (mk τ h).bind (fMkN2 kc n m f pk dws vs) := rfl
@[simp] theorem fMkN2_ev {kc n m : Nat} {f : FI} {pk : List Nat} {dws vs zs : List AV} {h : AH} : fMkN2 kc n m f pk dws vs zs h = if vs.length = n ∧ zs.length = m then (f (pickL pk (vs ++ zs ++ dws)) h).bind (fMk2 kc) else .stuck := rfl
theorem ie_mkN {kc k N nn : Nat} {f : Addr} {fd : FuncData} {ps ks : List Str} {pk : List Nat} {dws : List AV} {fi : FI} {kws : List Keyword} (M : Mk X.K (G.ca kc) f) (F : FnOk X.prog X.w X.K X.mg X.base (L2.CX X.prog X.w) k f fd ps (spI G kc N fi)) (hr : Room (k + 1) X.A) (tk : Takes X W) (hm : X.mg x = some (.ref (G.ca kc))) (hb : KBD G X.K fd ps (nn + 1) ks (0 :: pk.map (· + 1)) dws)
  (ha : IA G B W X (e :: es) ma) (hkw : IK G B W X kws mk) (hg : Gl X x := by rfl) (hall : (backToKw pos (keywordEach kws X.env)).all (·.1.isSome) = true := by rfl) (hks : (backToKw pos (keywordEach kws X.env)).filterMap (·.1) = ks := by rfl) (hdb : (x == ("__debug__" : Str)) = false := by decide)
  (he : starEach (e :: es) X.env = (false, eval e X.env) :: starEach es X.env := by rfl) (hpl : ((backTo pos (starEach (e :: es) X.env)).any (·.1) || (backToKw pos (keywordEach kws X.env)).any (·.1.isNone)) = false := by rfl) :
  IE G B W X (.Call (.Name x p) (e :: es) kws pos) (mMkN kc nn ks.length (chkI N fi) pk dws ma mk) := by
 obtain ⟨dvs, ds, rd, gd, kb⟩ := hb.ex
 refine ⟨fun pins s σ H Q I ⟨c, τ, L, eH, rl, s', q⟩ => ?_⟩
 refine wpAny_Call_Name_kw (ld_glob I hg hm ?_ hdb)
 refine PySem.W.callWith_KW (h₀ := X.base) I.ok.mod.kin M.kp hall (thn (ha.run pos pins s σ H _ I ⟨c, τ, L, eH, rl, s', Post.bind (R := RVs G) q⟩) fun us s1 ⟨vs, H1, I1, r1, c1, xs, e1, N1, x1, p1⟩ => ?_) hpl he
 refine thn (hkw.run pos pins s1 σ H1 _ I1 ⟨c1, τ, L, e1.symm, N1.rel, s'.nxt N1, Post.bind (R := RVs G) p1⟩) fun ws s2 ⟨zs, H2, I2, r2, c2, ys, e2, N2, x2, p2⟩ => ⟨I2.kIn, ?_⟩
 rw [hks]
 unfold fMkN2 at p2
 by_cases hl : xs.length = nn ∧ ys.length = ks.length
 ·rw [if_pos hl] at p2
  subst e2
  refine run_makeKS (E := fun σ k d H => W k d σ H) M F hr kb (passAt tk σ) I2 r1 r2 (by rw [← x1.length]; exact hl.1) (by rw [← x2.length]; exact hl.2) fun y dx hy hdx ne => ?_
  show (spI G kc N fi) (pickL (0 :: pk.map (· + 1)) (.ref y :: (vs ++ zs ++ dvs))) _ _ _
  rw [pick_succ]
  exact spI_new N2.rel (pick_rvs (((x1.mono N2.mv).append x2).append (gd c2)) pk) hy hdx ne p2
 ·rw [if_neg hl] at p2; exact p2.elim
end
section
variable {P : Program} {w : World} {K : PySem.W.Frag} {mg : Str → Option Value} {base : Heap}
theorem ok_fnD {G : Gx} {B : Bx} {x qual : Str} {st : Stmt} {f : Addr} {fd : FuncData} {N ps : List Str} {k : Nat} {b : MS} {dvs : List V} {kws : List (Str × V)} (F : FunD K x qual (defArgs st) (defBody st) (defScope st) dvs kws f fd) (S : FnScope N ps (defScope st))
    (hb : ∀ (cdv : Value) (A : Around) (outer : List Env) (s : Shared) (H : Hp) (E : XK) (zs : Addr → Prop), Room k (A.deeper (envOfC qual (defScope st) s.heap.objs.size f cdv)) →
      Takes (cxOf (L2.CX P w) P w K mg base N qual (defScope st) f cdv A outer s H E) (fun k d _ H' => E k d H') →
      ISs G B zs (fun k d _ H' => E k d H') (cxOf (L2.CX P w) P w K mg base N qual (defScope st) f cdv A outer s H E) (defBody st) b) :
    FnOk P w K mg base (L2.CX P w) (k + 1) f fd ps (spF G ps.length (runF N.length b)) := by
  refine F.ok S (fun vs H Q E h => ?_) (fun cdv A outer s H vs Q E hr h => ?_)
  · obtain ⟨c, ws, _, _, x, e, _⟩ := h
    rw [← x.length, e]
  · obtain ⟨c, ws, eH, r, x, e, p⟩ := h
    refine ⟨_, hb cdv A outer s H E c.Z hr (takes_of rfl rfl rfl rfl), ?_⟩
    refine ⟨c, _, [], eH, r, ⟨fun _ z => z, fun a h => absurd h (by simp), List.nodup_nil⟩, ?_, post_of p⟩
    unfold L2.start
    rw [x.length]
    exact RS.start x _
theorem ok_initD {G : Gx} {x qual : Str} {st : Stmt} {f : Addr} {fd : FuncData} {N ps : List Str} {k kc : Nat} {b : MS} {dvs : List V} {kws : List (Str × V)} (F : FunD K x qual (defArgs st) (defBody st) (defScope st) dvs kws f fd) (S : FnScope N ps (defScope st))
    (hb : ∀ (B : Bx) (cdv : Value) (A : Around) (outer : List Env) (s : Shared) (H : Hp) (E : XK) (zs : Addr → Prop), Room k (A.deeper (envOfC qual (defScope st) s.heap.objs.size f cdv)) →
      Takes (cxOf (L2.CX P w) P w K mg base N qual (defScope st) f cdv A outer s H E) (fun k d _ H' => E k d H') →
      ISs G B zs (fun k d _ H' => E k d H') (cxOf (L2.CX P w) P w K mg base N qual (defScope st) f cdv A outer s H E) (defBody st) b) :
    FnOk P w K mg base (L2.CX P w) (k + 1) f fd ps (spI G kc ps.length (runI N.length kc b)) := by
  refine F.ok S (fun vs H Q E h => ?_) (fun cdv A outer s H vs Q E hr h => ?_)
  · obtain ⟨c, ws, y, us, dx, rfl, _, _, _, _, x, e, _⟩ := h
    rw [List.length_cons, ← x.length, e]
  · obtain ⟨c, ws, y, us, dx, rfl, eH, r, z, hx, x, e, p⟩ := h
    refine ⟨_, hb ⟨0, .none, none, y⟩ cdv A outer s H E (fun a => c.Z a ∧ a ≠ y) hr (takes_of rfl rfl rfl rfl), ?_⟩
    subst eH
    refine ⟨c, some (.mI kc []) :: ws.map some ++ List.replicate (N.length - (ws.length + 1)) none, [y], rfl, r, ⟨fun _ z => z.1, fun a h z => z.2 (List.mem_singleton.mp h), by simp⟩, ?_, ?_⟩
    · unfold L2.start
      have q := RS.cons (B := ⟨0, .none, none, y⟩) (SR.mI (G := G) (B := ⟨0, .none, none, y⟩) (k := kc) z hx .nil) (RS.start (B := ⟨0, .none, none, y⟩) x (N.length - (ws.length + 1)))
      have hl : us.length = ws.length := x.length.symm
      simp only [List.map_cons, List.length_cons, List.cons_append, hl]
      exact q
    · unfold runI at p
      revert p
      have low : ∀ {L' : List Addr} {c' : Cfg}, Stp G (fun a => c.Z a ∧ a ≠ y) [y] c L' c' → StpI G y c { c' with Z := fun a => c.Z a ∧ a ≠ y } ∧ Mv c' { c' with Z := fun a => c.Z a ∧ a ≠ y } := fun {L' c'} S =>
        ⟨⟨S.rel.fewer S.own.low, S.mv.trans (Mv.fewer S.own.low), rfl, fun a h1 h2 => S.zz a ⟨h1, h2⟩⟩, Mv.fewer S.own.low⟩
      cases b (some (.mI kc []) :: ws.map some ++ List.replicate (N.length - (ws.length + 1)) none) c.h with
      | nx τ h1 =>
        intro p c' L' σ S e s
        cases s with
        | nil => exact p.elim
        | cons sr s =>
          cases sr with
          | @mI k' fs dx' us' z1 e1 xf =>
            simp only at p
            by_cases hk : k' = kc
            · rw [if_pos hk] at p
              subst hk
              exact p { c' with Z := fun a => c.Z a ∧ a ≠ y } dx' us' (low S).1 e (S.rel.zok _ z1).1 e1 (xf.mono (low S).2)
            · rw [if_neg hk] at p
              exact p.elim
          | skip => exact p.elim
          | @val v u _ => cases v <;> first | exact p.elim | (rename_i q; cases q)
          | mL _ _ _ => exact p.elim
          | mD _ _ _ => exact p.elim
          | mE _ => exact p.elim
      | rt v h1 => exact fun p => p.elim
      | exc x fs τ h1 => exact fun p c' L' σ k d S e x _ => p { c' with Z := fun a => c.Z a ∧ a ≠ y } k d (low S).1 e (x.mono (low S).2)
      | bk τ h1 => exact fun p => p.elim
      | ct τ h1 => exact fun p => p.elim
      | stuck => exact fun p => p.elim
end
theorem kwd0 {K : PySem.W.Frag} {D : Addr} : ∀ q, q ∈ ([] : List (Str × V)) → ∃ u, PySem.W.nsIn K D q.1 = some (some u) ∧ RelV q.2 u := fun _ h => absurd h (by simp)
theorem kwd1 {K : PySem.W.Frag} {D : Addr} {n : Str} {v : V} {u : Value} {r : List (Str × V)} (e : PySem.W.nsIn K D n = some (some u)) (hr : RelV v u) (h : ∀ q, q ∈ r → ∃ u, PySem.W.nsIn K D q.1 = some (some u) ∧ RelV q.2 u) : ∀ q, q ∈ (n, v) :: r → ∃ u, PySem.W.nsIn K D q.1 = some (some u) ∧ RelV q.2 u := fun q hq => by
 rcases List.mem_cons.mp hq with rfl | hq
 ·exact ⟨u, e, hr⟩
 ·exact h q hq
end PI
namespace PI
open PySem PySem.Spec PyProof.Rows L2 ClX
def datH (h : AH) : Nat → AV → Option PyData
  | _, .non => some .none
  | _, .bl b => some (.bool b)
  | _, .int i => some (.int i)
  | _, .str x => some (.str x)
  | n + 1, .tup xs => (xs.mapM (datH h n)).map .tuple
  | n + 1, .fl xs => (xs.mapM (datH h n)).map .list
  | n + 1, .ref m => match h[m]? with
    | some (some (.lst xs)) => (xs.mapM (datH h n)).map .list
    | _ => none
  | _, _ => none
def kEqH (v w : AV) (h : AH) : Option (AV × AH) := match datH h 12 v, datH h 12 w with
 | some d, some e => some (.bl (PyData.eqv d e), h)
 | _, _ => none
def kNeH (v w : AV) (h : AH) : Option (AV × AH) := match datH h 12 v, datH h 12 w with
 | some d, some e => some (.bl (!PyData.eqv d e), h)
 | _, _ => none
def kInH (neg : Bool) (v w : AV) (h : AH) : Option (AV × AH) := match datH h 12 v, datH h 12 w with
 | some d, some (.list ds) => if SeqAt.shaped d && SeqAt.shaped (.list ds) then some (.bl (if neg then !ds.any fun z => PyData.eqv z d else ds.any fun z => PyData.eqv z d), h) else none
 | _, _ => none
section
variable {G : Gx} {X : Cx} {c : Cfg}
theorem datH_ok (hK : X.K = G.K) (r : Rel G c) : ∀ (n : Nat) (v : AV) (u : V) (d : PyData), datH c.h n v = some d → RV G c v u → Dp X.K c.H u d ∧ PyData.canLay0 d = true ∧ d.depth ≤ n := by
 intro n
 have leaf : ∀ (n : Nat) (v : AV) (u : V) (d : PyData), (∀ xs, v ≠ .tup xs) → (∀ xs, v ≠ .fl xs) → (∀ m, v ≠ .ref m) → datH c.h n v = some d → RV G c v u → Dp X.K c.H u d ∧ PyData.canLay0 d = true ∧ d.depth ≤ n := by
  intro n v u d h1 h2 h3 e x
  cases x with
  | non => cases n <;> (simp only [datH] at e; cases e; exact ⟨.non, rfl, Nat.zero_le _⟩)
  | bl => cases n <;> (simp only [datH] at e; cases e; exact ⟨.bl _, rfl, Nat.zero_le _⟩)
  | int => cases n <;> (simp only [datH] at e; cases e; exact ⟨.int _, rfl, Nat.zero_le _⟩)
  | str k => cases n <;> (simp only [datH] at e; cases e; exact ⟨.str _, k, Nat.zero_le _⟩)
  | tup => exact absurd rfl (h1 _)
  | tupK => exact absurd rfl (h1 _)
  | fl => exact absurd rfl (h2 _)
  | flK => exact absurd rfl (h2 _)
  | ref => exact absurd rfl (h3 _)
  | _ => cases n <;> (simp only [datH] at e; cases e)
 induction n with
 | zero =>
  intro v u d e x
  refine leaf 0 v u d (fun xs h => ?_) (fun xs h => ?_) (fun m h => ?_) e x
  ·subst h; simp only [datH] at e; cases e
  ·subst h; simp only [datH] at e; cases e
  ·subst h; simp only [datH] at e; cases e
 | succ n ih =>
  have all : ∀ (xs : List AV) (us : List V) (ds : List PyData), xs.mapM (datH c.h n) = some ds → RVs G c xs us → DpAll X.K c.H us ds ∧ ∀ d, d ∈ ds → PyData.canLay0 d = true ∧ d.depth ≤ n := by
   intro xs
   induction xs with
   | nil => intro us ds e x; cases x; simp at e; subst e; exact ⟨.nil, fun d h => by simp at h⟩
   | cons y ys ihx =>
    intro us ds e x
    cases x with
    | cons x xr =>
     simp only [List.mapM_cons] at e
     cases q : datH c.h n y with
     | none => rw [q] at e; cases e
     | some d =>
      rw [q] at e
      cases q2 : ys.mapM (datH c.h n) with
      | none => rw [q2] at e; cases e
      | some ds2 =>
       rw [q2] at e
       cases e
       obtain ⟨a1, a2, a3⟩ := ih _ _ _ q x
       obtain ⟨b1, b2⟩ := ihx _ _ q2 xr
       exact ⟨.cons a1 b1, fun d' h => by rcases List.mem_cons.mp h with h | h; (rw [h]; exact ⟨a2, a3⟩); exact b2 d' h⟩
  intro v u d e x
  have seqs : ∀ {xs : List AV} {us : List V} {mk : List PyData → PyData} {ds : List PyData}, xs.mapM (datH c.h n) = some ds → RVs G c xs us → DpAll X.K c.H us ds ∧ PyData.canLayAll0 ds = true ∧ PyData.depthAll ds ≤ n := fun {xs us mk ds} e x => by
   obtain ⟨a1, a2⟩ := all xs us ds e x
   exact ⟨a1, canAll fun d h => (a2 d h).1, depthAll_le fun d h => (a2 d h).2⟩
  cases v with
  | tup xs =>
   simp only [datH] at e
   cases q : xs.mapM (datH c.h n) with
   | none => rw [q] at e; cases e
   | some ds =>
    rw [q] at e
    cases e
    obtain ⟨a, us, rfl, q1, y⟩ := rv_tup hK x
    obtain ⟨a1, a2, a3⟩ := seqs (mk := .tuple) q y
    exact ⟨.tup q1 a1, by simpa [PyData.canLay0] using a2, by simp only [PyData.depth]; omega⟩
  | fl xs =>
   simp only [datH] at e
   cases q : xs.mapM (datH c.h n) with
   | none => rw [q] at e; cases e
   | some ds =>
    rw [q] at e
    cases e
    obtain ⟨a, us, rfl, q1, y⟩ := rv_list hK x
    obtain ⟨a1, a2, a3⟩ := seqs (mk := .list) q y
    exact ⟨.lst q1 a1, by simpa [PyData.canLay0] using a2, by simp only [PyData.depth]; omega⟩
  | ref m =>
   simp only [datH] at e
   split at e
   ·rename_i xs qm
    cases q : xs.mapM (datH c.h n) with
    | none => rw [q] at e; cases e
    | some ds =>
     rw [q] at e
     cases e
     cases x
     obtain ⟨us, q1, y⟩ := r.obj m _ qm
     obtain ⟨a1, a2, a3⟩ := seqs (mk := .list) q y
     exact ⟨.lst (.inl (.inl q1)) a1, by simpa [PyData.canLay0] using a2, by simp only [PyData.depth]; omega⟩
   ·cases e
  | _ => exact leaf (n + 1) _ u d (fun xs h => by cases h) (fun xs h => by cases h) (fun m h => by cases h) e x
theorem ao_eqH (hK : X.K = G.K) : AO2 G kEqH (rEqD X.K) := fun c v w u x Q r xv xw p => by
 unfold kEqH at p
 cases e1 : datH c.h 12 v with
 | none => rw [e1] at p; exact p.elim
 | some d =>
  cases e2 : datH c.h 12 w with
  | none => rw [e1, e2] at p; exact p.elim
  | some e =>
   rw [e1, e2] at p
   obtain ⟨a1, a2, a3⟩ := datH_ok hK r 12 v u d e1 xv
   obtain ⟨b1, b2, b3⟩ := datH_ok hK r 12 w x e e2 xw
   exact ⟨d, e, a1, b1, shaped_of a2 a3, shaped_of b2 b3, post_fin r p .bl⟩
theorem ao_neH (hK : X.K = G.K) : AO2 G kNeH (rNeD X.K) := fun c v w u x Q r xv xw p => by
 unfold kNeH at p
 cases e1 : datH c.h 12 v with
 | none => rw [e1] at p; exact p.elim
 | some d =>
  cases e2 : datH c.h 12 w with
  | none => rw [e1, e2] at p; exact p.elim
  | some e =>
   rw [e1, e2] at p
   obtain ⟨a1, a2, a3⟩ := datH_ok hK r 12 v u d e1 xv
   obtain ⟨b1, b2, b3⟩ := datH_ok hK r 12 w x e e2 xw
   exact ⟨d, e, a1, b1, shaped_of a2 a3, shaped_of b2 b3, post_fin r p .bl⟩
theorem ao_inH (hK : X.K = G.K) (neg : Bool) : AO2 G (kInH neg) (rInDA X.K neg) := fun c v w u x Q r xv xw p => by
 unfold kInH at p
 cases e1 : datH c.h 12 v with
 | none => rw [e1] at p; exact p.elim
 | some d =>
  cases e2 : datH c.h 12 w with
  | none => rw [e1, e2] at p; exact p.elim
  | some e =>
   rw [e1, e2] at p
   cases e with
   | list ds =>
    simp only at p
    obtain ⟨a1, a2, a3⟩ := datH_ok hK r 12 v u d e1 xv
    obtain ⟨b1, b2, b3⟩ := datH_ok hK r 12 w x _ e2 xw
    by_cases hs : (SeqAt.shaped d && SeqAt.shaped (.list ds)) = true
    ·rw [if_pos hs] at p
     exact ⟨d, ds, a1, b1, shaped_of a2 a3, shaped_of b2 b3, post_fin r p .bl⟩
    ·rw [if_neg hs] at p; exact p.elim
   | _ => exact p.elim
end
theorem kEqH_of {v w : AV} {d e : PyData} {h : AH} (e1 : datH h 12 v = some d) (e2 : datH h 12 w = some e) : kEqH v w h = some (.bl (PyData.eqv d e), h) := by
 unfold kEqH; rw [e1, e2]
theorem kNeH_of {v w : AV} {d e : PyData} {h : AH} (e1 : datH h 12 v = some d) (e2 : datH h 12 w = some e) : kNeH v w h = some (.bl (!PyData.eqv d e), h) := by
 unfold kNeH; rw [e1, e2]
@[simp] theorem kEqH_str (x y : Str) (h : AH) : kEqH (.str x) (.str y) h = some (.bl (decide (x = y)), h) := kEq_str x y h
@[simp] theorem kEqH_int (x y : Int) (h : AH) : kEqH (.int x) (.int y) h = some (.bl (decide (x = y)), h) := kEq_int x y h
@[simp] theorem kNeH_str (x y : Str) (h : AH) : kNeH (.str x) (.str y) h = some (.bl (!decide (x = y)), h) := kNe_str x y h
@[simp] theorem kNeH_int (x y : Int) (h : AH) : kNeH (.int x) (.int y) h = some (.bl (!decide (x = y)), h) := kNe_int x y h
@[simp] theorem kNeH_bl (x y : Bool) (h : AH) : kNeH (.bl x) (.bl y) h = some (.bl (!decide (x = y)), h) := by cases x <;> cases y <;> rfl
@[simp] theorem kEqH_bl (x y : Bool) (h : AH) : kEqH (.bl x) (.bl y) h = some (.bl (decide (x = y)), h) := by cases x <;> cases y <;> rfl
abbrev Src := Nat → AH → Option (Option AV)
abbrev MI := AS → AH → Res Src
structure GoesD (G : Gx) (c : Cfg) (J : It) (src : Src) : Prop where
 go : ∀ (c' : Cfg) (i : Nat) (v : AV), Mv c c' → Rel G c' → src i c'.h = some (some v) → J.go i c'.H ∧ ∀ x H'', J.yld i c'.H x H'' → Nxt G c' { c' with H := H'' } ∧ RV G { c' with H := H'' } v x
 stop : ∀ (c' : Cfg) (i : Nat), Mv c c' → Rel G c' → src i c'.h = some none → J.stop i c'.H
def tIiD (G : Gx) (B : Bx) (W : WX) (m : MI) : TI := fun σ H R => ∃ c τ L, c.H = H ∧ Rel G c ∧ RS G B c L τ σ ∧ Post G (fun c' (s : Src) (J : It) => GoesD G c' J s) c (fun k d H' => W k d σ H') R (m τ c.h)
def IID (G : Gx) (B : Bx) (W : WX) (X : Cx) (tg iter : Expr) (m : MI) : Prop := PI X tg iter (tIiD G B W m)
def lstOf (v : AV) (h : AH) : Option (List AV) := match v with
  | .ref n => match h[n]? with
    | some (some (.lst xs)) => some xs
    | _ => none
  | .fl xs => some xs
  | _ => none
def srcL (v : AV) : Src := fun i h => (lstOf v h).map fun xs => xs[i]?
def forD (g : MG) (b : MS) (src : Src) : Nat → Nat → AS → AH → SRes
  | 0, _, _, _ => .stuck
  | m + 1, i, τ, h => match src i h with
    | none => .stuck
    | some none => .nx τ h
    | some (some v) => match g v τ with
      | none => .stuck
      | some τ1 => match b τ1 h with
        | .nx τ2 h2 => forD g b src m (i + 1) τ2 h2
        | .ct τ2 h2 => forD g b src m (i + 1) τ2 h2
        | .bk τ2 h2 => .nx τ2 h2
        | q => q
def fForD (n : Nat) (g : MG) (b : MS) (τ : AS) : Src → AH → SRes := fun src h => forD g b src n 0 τ h
def sForD (n : Nat) (g : MG) (mi : MI) (b : MS) : MS := fun τ h => (mi τ h).bindS τ (fForD n g b τ)
section
variable {G : Gx} {B : Bx} {zs : Addr → Prop} {W : WX} {X : Cx} {c c' : Cfg} {L : List Addr} {τ : AS} {σ : SL} {pos pos' p : Pos} {e o a : Expr} {me m : ME} {ma : MA} {mt : MT} {x s : Str} {i : Nat} {vs : List Nat} {tg : Expr}
theorem lst_rv (hK : X.K = G.K) {v : AV} {u : V} {xs : List AV} (r : Rel G c) (x : RV G c v u) (e : lstOf v c.h = some xs) : ∃ a us, u = .ref a ∧ SqL X.K c.H a us ∧ RVs G c xs us := by
 cases v with
 | fl ys => cases e; exact rv_list hK x
 | ref n =>
  unfold lstOf at e
  simp only at e
  split at e
  ·rename_i ys q
   cases e
   cases x
   obtain ⟨us, q1, y⟩ := r.obj n _ q
   exact ⟨_, us, rfl, .inl (.inl q1), y⟩
  ·cases e
 | _ => cases e
theorem goesD_list (hK : X.K = G.K) {v : AV} {a : Addr} (x : RV G c v (.ref a)) (hv : (lstOf v c.h).isSome = true) : GoesD G c (Itl X.K a) (srcL v) := by
 have key : ∀ (c' : Cfg) (xs : List AV), Mv c c' → Rel G c' → lstOf v c'.h = some xs → ∃ us, SqL X.K c'.H a us ∧ RVs G c' xs us := fun c' xs M r e => by
  obtain ⟨b, us, eb, q, y⟩ := lst_rv hK r (x.mono M) e
  cases eb
  exact ⟨us, q, y⟩
 refine ⟨fun c' i w M r e => ?_, fun c' i M r e => ?_⟩
 ·unfold srcL at e
  cases q : lstOf v c'.h with
  | none => rw [q] at e; cases e
  | some xs =>
   rw [q] at e
   have e' : xs[i]? = some w := by simpa using e
   obtain ⟨us, q1, y⟩ := key c' xs M r q
   obtain ⟨u, hu, ru⟩ := y.nth e'
   refine ⟨⟨us, u, q1, hu⟩, fun z H'' hy => ?_⟩
   obtain ⟨rfl, hz⟩ := hy
   have := hz us q1
   rw [hu] at this
   cases this
   exact ⟨.refl r, ru⟩
 ·unfold srcL at e
  cases q : lstOf v c'.h with
  | none => rw [q] at e; cases e
  | some xs =>
   rw [q] at e
   have e' : xs[i]? = none := by simpa using e
   obtain ⟨us, q1, y⟩ := key c' xs M r q
   rw [List.getElem?_eq_none_iff] at e'
   exact ⟨us, q1, by rw [← y.length]; exact e'⟩
theorem is_forD {g : MG} {mi : MI} {iter : Expr} {body : List Stmt} {ms : MS} (n : Nat) (hp : PassesOwn (model X.prog X.w) X.A X.env X.xe) (hc : X.calm = true) (hi : IID G B W X tg iter mi) (hg : IG G B zs X tg g) (hb : ISs G B zs W X body ms)
  (hs : ∀ x, foldedSetIterable iter X.env x = pure x := by intro _; rfl) : IS G B zs W X (.For tg iter body [] pos) (sForD n g mi ms) := PS.imp (ps_for hp hc hi hg hb hs) fun D σ H ⟨c, τ, L, eH, r, o, s, p⟩ => by
 refine ⟨c, τ, L, eH, r, s, (PostS.bindS (R := fun c' (s : Src) (J : It) => GoesD G c' J s) o s p).imp fun J H1 ⟨c1, src, e1, N1, gd, p1⟩ => ?_⟩
 subst e1
 refine ⟨fun i k σ H => ∃ c2 τ L2, c2.H = H ∧ Stp G zs L c1 L2 c2 ∧ RS G B c2 L2 τ σ ∧ PostS G B zs L2 c2 W D (forD g ms src k i τ c2.h), ⟨n, c1, τ, L, rfl, .refl N1.rel (o.nxt N1), s.nxt N1, p1⟩, ?_⟩
 rintro i k σ H ⟨c2, τ, L2, rfl, S, s2, p2⟩
 cases k with
 | zero => exact p2.elim
 | succ k =>
  unfold forD at p2
  cases es : src i c2.h with
  | none => rw [es] at p2; exact p2.elim
  | some ov =>
   rw [es] at p2
   cases ov with
   | none => exact .inl ⟨gd.stop c2 i S.mv S.rel es, p2 c2 L2 σ (.refl S.rel S.own) rfl s2⟩
   | some v =>
    obtain ⟨hgo, hy⟩ := gd.go c2 i v S.mv S.rel es
    simp only at p2
    refine .inr ⟨hgo, fun σ' H' => ∃ c2 τ L2, c2.H = H' ∧ Stp G zs L c1 L2 c2 ∧ RS G B c2 L2 τ σ' ∧ PostS G B zs L2 c2 W D (forD g ms src k (i + 1) τ c2.h), fun σ' H' q => ⟨k, Nat.lt_succ_self k, q⟩, fun x H' y => ?_⟩
    obtain ⟨N3, x3⟩ := hy x H' y
    cases q : g v τ with
    | none => rw [q] at p2; exact p2.elim
    | some τ1 =>
     rw [q] at p2
     have T := Stp.of N3 S.own
     refine ⟨{ c2 with H := H' }, τ, L2, v, τ1, rfl, N3.rel, T.own, s2.nxt N3, x3, q, fun c3 L3 σ3 S3 e3 s3 => ⟨c3, τ1, L3, rfl, S3.rel, S3.own, s3, ?_⟩⟩
     have p3 := PostS.trans (T.trans S3) p2
     have e3' : c3.h = c2.h := e3
     have nxt : ∀ {c4 : Cfg} {L4 : List Addr} {σ4 : SL} {τ4 : AS}, Stp G zs L3 c3 L4 c4 → RS G B c4 L4 τ4 σ4 → PostS G B zs L3 c3 W D (forD g ms src k (i + 1) τ4 c4.h) →
       ∃ c2 τ L2, c2.H = c4.H ∧ Stp G zs L c1 L2 c2 ∧ RS G B c2 L2 τ σ4 ∧ PostS G B zs L2 c2 W D (forD g ms src k (i + 1) τ c2.h) := fun {c4 L4 σ4 τ4} S4 s4 p4 =>
      ⟨c4, τ4, L4, rfl, ((S.trans T).trans S3).trans S4, s4, PostS.trans S4 p4⟩
     revert p3
     rw [e3']
     show PostS G B zs L3 c3 W D (match ms τ1 c2.h with | .nx τ2 h2 => forD g ms src k (i + 1) τ2 h2 | .ct τ2 h2 => forD g ms src k (i + 1) τ2 h2 | .bk τ2 h2 => .nx τ2 h2 | q => q) → PostS G B zs L3 c3 W _ (ms τ1 c2.h)
     cases ms τ1 c2.h with
     | nx τ4 h4 => exact fun p3 c4 L4 σ4 S4 e4 s4 => nxt S4 s4 (by rw [e4]; exact p3)
     | ct τ4 h4 => exact fun p3 c4 L4 σ4 S4 e4 s4 => nxt S4 s4 (by rw [e4]; exact p3)
     | bk τ4 h4 => exact fun p3 => p3
     | rt v h4 => exact fun p3 => p3
     | exc x fs τ4 h4 => exact fun p3 => p3
     | stuck => exact fun p3 => p3
end
section
variable {g : MG} {b : MS} {mt : MT} {me e : ME} {ea : MA} {mi : MI} {τ : AS} {h : AH} {src : Src} {k : AV → Src} {v : AV} {n m i : Nat} {xs acc : List AV}
@[simp] theorem lstOf_ref : lstOf (.ref n) h = match h[n]? with | some (some (.lst xs)) => some xs | _ => none := rfl
@[simp] theorem lstOf_fl : lstOf (.fl xs) h = some xs := rfl
@[simp] theorem sForD_ev : sForD n g mi b τ h = (mi τ h).bindS τ (fForD n g b τ) := rfl
@[simp] theorem fForD_ev : fForD n g b τ src h = forD g b src n 0 τ h := rfl
end
section
variable {G : Gx} {B : Bx} {zs : Addr → Prop} {W : WX} {X : Cx} {c c' : Cfg} {L : List Addr} {τ : AS} {σ : SL} {pos pos' p apos cpos : Pos} {e o a : Expr} {es : List Expr} {m n mo me : ME} {ma mi mk : MA} {mt : MT} {x s : Str} {i : Nat} {vs : List Nat}
theorem cx_false {P : Program} {w : World} {outer : List Env} {H : Hp} {s s' : Shared} {e : Value} (hc : L2.CX P w outer H s (fun _ _ _ => False) e s') : False := by
 obtain ⟨_, _, _, _, _, _, _, _, _, _, _, _, z⟩ := hc
 exact z
@[simp] theorem noX_ok {α : Type} {a : α} {h : AH} : noX (Res.ok a h) = .ok a h := rfl
structure SMet (K : PySem.W.Frag) (C : Addr) (mc : Value) (m : Str) (p g : Addr) : Prop where
 at_ : PySem.W.findCls K (.ref C) mc m = some (.get (.builtin "staticmethod.__get__") (.ref p) .none (.ref C))
 rc : ∃ rest, PySem.W.recIn K p "staticmethod" = some (.ref g :: rest)
 kp : PySem.W.keepIn K (.ref g) = true
end
section
variable {G : Gx} {B : Bx} {zs : Addr → Prop} {W : WX} {X : Cx} {c c' : Cfg} {L : List Addr} {τ : AS} {σ : SL} {pos pos' p apos cpos : Pos} {e o a b : Expr} {es : List Expr} {m n mo me : ME} {ma mi mk : MA} {mt : MT} {x s : Str} {i : Nat} {vs : List Nat}
structure OwnS (K : PySem.W.Frag) (C : Addr) (m : Str) (f : Addr) : Prop where
 at_ : PySem.W.findIn K (.ref C) m = some (some (.ref f))
 fn : PySem.W.isFn K (.ref f) = true
 fi : PySem.W.fnIn K f = true
 sq : PySem.W.noSeq K C = true
end
section
variable {G : Gx} {B : Bx} {zs : Addr → Prop} {W : WX} {X : Cx} {c c' : Cfg} {L : List Addr} {τ : AS} {σ : SL} {pos pos' p apos cpos : Pos} {e e2 o a : Expr} {es : List Expr} {m n mo me : ME} {ma mi mi1 mk : MA} {mt mt1 : MT} {x s : Str} {i : Nat} {vs vs1 : List Nat}
end
section
variable {G : Gx} {B : Bx} {zs : Addr → Prop} {W : WX} {X : Cx} {c c' : Cfg} {L : List Addr} {τ : AS} {σ : SL} {pos pos' p apos cpos : Pos} {e e2 o a : Expr} {es : List Expr} {m n mo me : ME} {ma mi mi1 mk : MA} {mt mt1 : MT} {x s : Str} {i : Nat} {vs vs1 : List Nat}
end
def objMro (K : PySem.W.Frag) (D : Addr) : Bool := (PySem.W.clsIn K D).any fun cd => cd.mro == [.ref D, .type "object"]
section
variable {prog : Program} {w : World} {A : Around} {E : Value → Shared → Prop} {s : Shared} {K : PySem.W.Frag} {x y C D L f : Addr} {h₀ : Heap} {m : Str → Option Value} {ox od oy oe : Obj} {oD : Option Obj} {nm : String}
end
section
variable {G : Gx} {B : Bx} {zs : Addr → Prop} {W : WX} {X : Cx} {c c' : Cfg} {L : List Addr} {τ : AS} {σ : SL} {pos pos' p apos cpos : Pos} {e o a b : Expr} {es : List Expr} {m n mo me : ME} {ma mi mk : MA} {mt : MT} {x s : Str} {i : Nat} {vs : List Nat}
def okV : Res AV → Option (AV × AH)
 | .ok v h => some (v, h)
 | _ => none
structure Own2 (K : PySem.W.Frag) (C D : Addr) (nm : String) (f : Addr) : Prop where
 at_ : PySem.W.findIn K (.ref C) (PySem.dunder nm) = some (some (.ref f))
 fn : PySem.W.isFn K (.ref f) = true
 first : PySem.W.selfFirst K C = true
 ne : (C == D) = false
 mro : objMro K D = true
 n1 : PySem.W.findIn K (.ref D) (PySem.dunder nm) = some none
 n2 : PySem.W.findIn K (.ref D) (dunderR nm) = some none
 n3 : PySem.W.findIn K (.type "object") (PySem.dunder nm) = some none
 n4 : PySem.W.findIn K (.type "object") (dunderR nm) = some none
end
section
variable {prog : Program} {w : World} {A : Around} {E : Value → Shared → Prop} {s : Shared} {a D : Addr} {K : Type} [DecidableEq K] {knd : KeyKind prog w K} {kvs : List (K × Value)}
end
inductive Ent : List DictEntry → List (Str × Value) → Prop where
 | nil : Ent [] []
 | cons {e : DictEntry} {z : Str} {t : Tok} {l : List DictEntry} {r : List (Str × Value)} (h : e.key = .str z t) (q : Ent l r) : Ent (e :: l) ((z, e.val) :: r)
section
variable {X : Cx} {e : Expr} {te : TE} {pos : Pos} {f : Value}
end
structure KBA (G : Gx) (K : PySem.W.Frag) (fd : FuncData) (pn kn dk : List Str) (n d : Nat) (dws : List AV) : Prop where
 all : ∀ ks, bindOk pn kn ks dk n d = true → KBD G K fd (pn ++ kn) n ks (pkOf (pn.take n ++ ks ++ pn.drop (pn.length - d) ++ kn) (pn ++ kn)) dws
section
variable {G : Gx} {B : Bx} {zs : Addr → Prop} {W : WX} {X : Cx} {c c' : Cfg} {L : List Addr} {τ : AS} {σ : SL} {pos pos' p kp apos cpos : Pos} {e o a : Expr} {es : List Expr} {m n mo me : ME} {ma mi mk : MA} {mt : MT} {x s : Str} {i : Nat} {vs : List Nat}
end
section
variable {G : Gx} {B : Bx} {zs : Addr → Prop} {W : WX} {X : Cx} {c c' : Cfg} {L : List Addr} {τ : AS} {σ : SL} {pos pos' p apos cpos : Pos} {e e2 o a : Expr} {es : List Expr} {m n mo mk mv : ME} {ma mi mi1 : MA} {mt mt1 : MT} {x s : Str} {i : Nat} {vs vs1 : List Nat}
end
section
variable {G : Gx} {B : Bx} {zs : Addr → Prop} {W : WX} {X : Cx} {c c' : Cfg} {L : List Addr} {τ : AS} {σ : SL} {pos pos' p apos cpos : Pos} {e e2 o a : Expr} {es : List Expr} {m n mo me : ME} {ma mi mi1 mk : MA} {mt mt1 : MT} {x s : Str} {i : Nat} {vs vs1 : List Nat}
end
section
variable {G : Gx} {B : Bx} {zs : Addr → Prop} {W : WX} {X : Cx} {c c' : Cfg} {τ : AS} {h : AH}
end
section
variable {τ : AS} {h : AH} {ma : MA} {m n mo me mk mv : ME} {mi mi1 : MA} {mt mt1 : MT} {g g1 : MG} {vs vs1 : List Nat}
@[simp] theorem okV_ok {v : AV} : okV (.ok v h) = some (v, h) := rfl
end
end PI
namespace PI
open PySem PySem.Spec PyProof.Rows L2
theorem small_of {n : Nat} (h : n ≤ 16777216) : small n = true := by unfold small; simpa using h
theorem mapM_strs {f : AV → Option PyData} (hf : ∀ z, f (.str z) = some (.str z)) : ∀ ss : List Str, (ss.map AV.str).mapM f = some (ss.map PyData.str)
 | [] => rfl
 | a :: ss => by simp [List.mapM_cons, hf, mapM_strs hf ss]
theorem datH_lst {h : AH} {n : Nat} {v : AV} {xs : List AV} {ds : List PyData} (e : lstOf v h = some xs) (q : xs.mapM (datH h n) = some ds) : datH h (n + 1) v = some (.list ds) := by
 cases v with
 | fl ys => cases e; rw [datH, q]; rfl
 | ref m =>
  unfold lstOf at e
  simp only at e
  split at e
  ·rename_i q2
   cases e
   show (match h[m]? with | some (some (.lst xs)) => (xs.mapM (datH h n)).map PyData.list | _ => none) = _
   rw [q2]
   simp only [q]
   rfl
  ·cases e
 | _ => cases e
theorem datH_strs {h : AH} {v : AV} {ss : List Str} (e : lstOf v h = some (ss.map .str)) : datH h 12 v = some (.list (ss.map .str)) := datH_lst e (mapM_strs (fun _ => rfl) ss)
end PI
namespace PI
open PySem PySem.Spec PyProof.Rows L2 ClX
theorem OpR.or {X : Cx} {f : Value → Value → Sem Value} {r r' : R2} (a : OpR X f r) (b : OpR X f r') : OpR X f (fun x y H Q => r x y H Q ∨ r' x y H Q) :=
 fun pins s σ H x y v u Q I rx ry h => h.elim (a pins s σ H x y v u Q I rx ry) (b pins s σ H x y v u Q I rx ry)
theorem CallR.or {X : Cx} {f : Value} {r r' : List V → Hp → VK → Prop} (a : CallR X f r) (b : CallR X f r') : CallR X f (fun x H Q => r x H Q ∨ r' x H Q) :=
 fun pins s σ H xs us Q I rx h => h.elim (a pins s σ H xs us Q I rx) (b pins s σ H xs us Q I rx)
theorem PE.or {X : Cx} {e : Expr} {t t' : TE} (h : PE X e t) (h' : PE X e t') : PE X e (fun σ H Q => t σ H Q ∨ t' σ H Q) :=
 ⟨fun pins s σ H Q I q => q.elim (h.run pins s σ H Q I) (h'.run pins s σ H Q I)⟩
theorem PS.or {X : Cx} {st : Stmt} {t t' : TS} (h : PS X st t) (h' : PS X st t') : PS X st (fun D σ H => t D σ H ∨ t' D σ H) :=
 ⟨fun pins s σ H D I q => q.elim (h.run pins s σ H D I) (h'.run pins s σ H D I)⟩
section
variable {G : Gx} {B : Bx} {zs : Addr → Prop} {W : WX} {X : Cx} {c c' : Cfg} {L : List Addr} {τ : AS} {σ : SL} {pos pos' p apos cpos tpos : Pos} {e o a b f : Expr} {es : List Expr} {m n mo me mi mx : ME} {ma mk : MA} {mt : MT} {x s : Str} {i : Nat} {vs : List Nat}
theorem post_allocD {W : XK} {Q : VK} {xs : List (Key × AV)} {us : List (Key × V)} {q : Addr} (r : Rel G c) (x : RVd G c xs us) (hq : c.H q = none) (p : PostO G c Q (some (.ref c.h.length, c.h ++ [some (.dk xs)]))) : Q (.ref q) (upd c.H q (.dK us)) := by
 have N := Nxt.alloc (o := .dk xs) (H' := upd c.H q (.dK us)) r hq (fun b o z => by rw [upd_ne (ne_of_none z hq)]; exact z) fun c' M e => ⟨us, by rw [e, upd_same], x.mono M⟩
 have y : RV G { c with rho := ext c.rho c.h.length q, h := c.h ++ [some (.dk xs)], H := upd c.H q (.dK us) } (.ref c.h.length) (.ref (ext c.rho c.h.length q c.h.length)) := .ref (by simp)
 rw [ext_same] at y
 exact p _ _ N rfl y
theorem post_allocL {W : XK} {Q : VK} {xs : List AV} {us : List V} {q : Addr} (r : Rel G c) (x : RVs G c xs us) (hq : c.H q = none) (p : PostO G c Q (some (.ref c.h.length, c.h ++ [some (.lst xs)]))) : Q (.ref q) (upd c.H q (.lst us)) := by
 have N := Nxt.alloc (o := .lst xs) (H' := upd c.H q (.lst us)) r hq (fun b o z => by rw [upd_ne (ne_of_none z hq)]; exact z) fun c' M e => ⟨us, by rw [e, upd_same], x.mono M⟩
 have y : RV G { c with rho := ext c.rho c.h.length q, h := c.h ++ [some (.lst xs)], H := upd c.H q (.lst us) } (.ref c.h.length) (.ref (ext c.rho c.h.length q c.h.length)) := .ref (by simp)
 rw [ext_same] at y
 exact p _ _ N rfl y
def mDNew : ME := fun _ h => .ok (.ref h.length) (h ++ [some (.dk [])])
theorem ie_dnew : IE G B W X (.Dict [] [] pos) mDNew := PE.imp pe_dnewK fun σ H Q ⟨c, τ, L, eH, rl, s, p⟩ => by
 subst eH
 exact fun q hq => post_allocD (W := fun _ _ _ => False) rl .nil hq p
@[simp] theorem mDNew_ev {h : AH} : mDNew τ h = .ok (.ref h.length) (h ++ [some (.dk [])]) := rfl
def fDPut2 (v w : AV) (τ : AS) : AV → AH → SRes := fun k h => match w with
  | .ref n => match h[n]? with
    | some (some (.dk xs)) => match keyA k with
      | some kk => if small (xs.length + 1) then .nx τ (h.set n (some (.dk (putA xs kk v)))) else .stuck
      | none => .stuck
    | _ => .stuck
  | _ => .stuck
def fDPut1 (mi : ME) (v : AV) (τ : AS) : AV → AH → SRes := fun w h => (mi τ h).bindS τ (fDPut2 v w τ)
def fDPut (mo mi : ME) (τ : AS) : AV → AH → SRes := fun v h => (mo τ h).bindS τ (fDPut1 mi v τ)
def sDPutM (mo mi me : ME) : MS := fun τ h => (me τ h).bindS τ (fDPut mo mi τ)
@[simp] theorem sDPutM_ev {h : AH} : sDPutM mo mi me τ h = (me τ h).bindS τ (fDPut mo mi τ) := rfl
@[simp] theorem fDPut_ev {h : AH} {v : AV} : fDPut mo mi τ v h = (mo τ h).bindS τ (fDPut1 mi v τ) := rfl
@[simp] theorem fDPut1_ev {h : AH} {v w : AV} : fDPut1 mi v τ w h = (mi τ h).bindS τ (fDPut2 v w τ) := rfl
@[simp] theorem fDPut2_ev {h : AH} {v k : AV} {j : Nat} : fDPut2 v (.ref j) τ k h = match h[j]? with
    | some (some (.dk xs)) => match keyA k with
      | some kk => if small (xs.length + 1) then .nx τ (h.set j (some (.dk (putA xs kk v)))) else .stuck
      | none => .stuck
    | _ => .stuck := rfl
theorem is_dput (hu : X.A.units + 1 < cLine) (he : IE G B W X e me) (ho : IE G B W X o mo) (hi : IE G B W X a mi) (hs : swapsWith e (some (.Subscript o a pos')) pos.line X.env = pure false := by rfl) :
    IS G B zs W X (.Assign [.Subscript o a pos'] e pos) (sDPutM mo mi me) := PS.imp (ps_dput hu ho hi he hs) fun D σ H ⟨c, τ, L, eH, r, o, s, p⟩ => by
  refine ⟨c, τ, L, eH, r, s, (PostS.bindS (R := RV G) o s p).imp fun u H1 ⟨c1, v, e1, N1, x1, p1⟩ => ?_⟩
  refine ⟨c1, τ, L, e1, N1.rel, s.nxt N1, (PostS.bindS (R := RV G) (o.nxt N1) (s.nxt N1) p1).imp fun u2 H2 ⟨c2, w, e2, N2, x2, p2⟩ => ?_⟩
  refine ⟨c2, τ, L, e2, N2.rel, (s.nxt N1).nxt N2, (PostS.bindS (R := RV G) ((o.nxt N1).nxt N2) ((s.nxt N1).nxt N2) p2).imp fun u3 H3 ⟨c3, k, e3, N3, x3, p3⟩ => ?_⟩
  subst e3
  have x2' := x2.mono N3.mv
  unfold fDPut2 at p3
  cases x2' with
  | @ref n hn =>
    simp only at p3
    split at p3
    · rename_i xs q
      split at p3
      · rename_i kk q4
        by_cases hl : small (xs.length + 1) = true
        · rw [if_pos hl] at p3
          obtain ⟨us, q1, y⟩ := N3.rel.obj n _ q
          obtain ⟨ek, hk⟩ := key_rv x3 q4
          have x1' := (x1.mono N2.mv).mono N3.mv
          have N4 := Nxt.write (o' := .dk (putA xs kk v)) (O := .dK (putK us kk u)) N3.rel q fun c4 M e4 => ⟨_, e4, (y.put hk x1').mono M⟩
          subst ek
          exact ⟨_, _, rfl, DPut.k q1 (by rw [← y.length]; exact Nat.lt_of_lt_of_le (Nat.lt_succ_self _) (small_le hl)), p3 _ L σ (Stp.of N4 (((o.nxt N1).nxt N2).nxt N3)) rfl ((((s.nxt N1).nxt N2).nxt N3).nxt N4)⟩
        · rw [if_neg hl] at p3; exact p3.elim
      · exact p3.elim
    · exact p3.elim
  | _ => exact p3.elim
def fDDel2 (w : AV) (τ : AS) : AV → AH → SRes := fun k h => match w with
  | .ref n => match h[n]? with
    | some (some (.dk xs)) => match keyA k with
      | some kk => if (valA xs kk).isSome then .nx τ (h.set n (some (.dk (dropA xs kk)))) else .stuck
      | none => .stuck
    | _ => .stuck
  | _ => .stuck
def fDDel1 (mi : ME) (τ : AS) : AV → AH → SRes := fun w h => (mi τ h).bindS τ (fDDel2 w τ)
def sDDelM (mo mi : ME) : MS := fun τ h => (mo τ h).bindS τ (fDDel1 mi τ)
@[simp] theorem sDDelM_ev {h : AH} : sDDelM mo mi τ h = (mo τ h).bindS τ (fDDel1 mi τ) := rfl
@[simp] theorem fDDel1_ev {h : AH} {w : AV} : fDDel1 mi τ w h = (mi τ h).bindS τ (fDDel2 w τ) := rfl
@[simp] theorem fDDel2_ev {h : AH} {k : AV} {j : Nat} : fDDel2 (.ref j) τ k h = match h[j]? with
    | some (some (.dk xs)) => match keyA k with
      | some kk => if (valA xs kk).isSome then .nx τ (h.set j (some (.dk (dropA xs kk)))) else .stuck
      | none => .stuck
    | _ => .stuck := rfl
theorem RVd.some {xs : List (Key × AV)} {us : List (Key × V)} (r : RVd G c xs us) (k : Key) : (valV us k).isSome = (valA xs k).isSome := by
 have h := r.val k
 cases q : valA xs k with
 | none => rw [q] at h; simp only at h; rw [h]; rfl
 | some v => rw [q] at h; simp only at h; obtain ⟨u, e, _⟩ := h; rw [e]; rfl
theorem is_ddel (ho : IE G B W X o mo) (hi : IE G B W X a mi) : IS G B zs W X (.Delete [.Subscript o a tpos] pos) (sDDelM mo mi) := PS.imp (ps_ddel ho hi) fun D σ H ⟨c, τ, L, eH, r, o, s, p⟩ => by
 refine ⟨c, τ, L, eH, r, s, (PostS.bindS (R := RV G) o s p).imp fun u H1 ⟨c1, v, e1, N1, x1, p1⟩ => ?_⟩
 refine ⟨c1, τ, L, e1, N1.rel, s.nxt N1, (PostS.bindS (R := RV G) (o.nxt N1) (s.nxt N1) p1).imp fun u2 H2 ⟨c2, w, e2, N2, x2, p2⟩ => ?_⟩
 subst e2
 have x1' := x1.mono N2.mv
 unfold fDDel2 at p2
 cases x1' with
 | @ref n hn =>
  simp only at p2
  split at p2
  ·rename_i xs q
   split at p2
   ·rename_i kk q4
    by_cases hl : (valA xs kk).isSome = true
    ·rw [if_pos hl] at p2
     obtain ⟨us, q1, y⟩ := N2.rel.obj n _ q
     obtain ⟨ek, hk⟩ := key_rv x2 q4
     have N4 := Nxt.write (o' := .dk (dropA xs kk)) (O := .dK (dropK us kk)) N2.rel q fun c4 M e4 => ⟨_, e4, y.drop.mono M⟩
     exact ⟨_, us, kk, rfl, q1, ek, (y.some kk).trans hl, p2 _ L σ (Stp.of N4 ((o.nxt N1).nxt N2)) rfl (((s.nxt N1).nxt N2).nxt N4)⟩
    ·rw [if_neg hl] at p2; exact p2.elim
   ·exact p2.elim
  ·exact p2.elim
 | _ => exact p2.elim
def kInDict (neg : Bool) (v w : AV) (h : AH) : Option (AV × AH) := (dctA w h).bind fun kvs => (keyA v).map fun k => (.bl (if neg then !(valA kvs k).isSome else (valA kvs k).isSome), h)
@[simp] theorem dctA_fd {kvs : List (Key × AV)} {h : AH} : dctA (.fd kvs) h = some kvs := rfl
@[simp] theorem dctA_ref {j : Nat} {h : AH} : dctA (.ref j) h = match h[j]? with | some (some (.dk kvs)) => some kvs | _ => none := rfl
@[simp] theorem keyA_str {z : Str} : keyA (.str z) = some (.inr z) := rfl
@[simp] theorem keyA_int {z : Int} : keyA (.int z) = some (.inl z) := rfl
@[simp] theorem kInDict_ev {neg : Bool} {v w : AV} {h : AH} : kInDict neg v w h = (dctA w h).bind fun kvs => (keyA v).map fun k => (.bl (if neg then !(valA kvs k).isSome else (valA kvs k).isSome), h) := rfl
@[simp] theorem kDGet_ev {v w : AV} {h : AH} : kDGet v w h = (dctA v h).bind fun kvs => (keyA w).bind fun k => (valA kvs k).map fun x => (x, h) := rfl
def rInDict (neg : Bool) : R2 := fun y x H Q => ∃ a o, x = .ref a ∧ DGet H a y o ∧ Q (.bl (if neg then !o.isSome else o.isSome)) H
theorem op_inDict (hu : X.A.units + 1 < cLine) : OpR X (compareOp .In) (rInDict false) := fun pins s σ H y x v u Q I ry rx ⟨a, o, ex, g, q⟩ => by
 subst ex
 obtain rfl : u = Value.ref a := rx
 exact d_in hu I g ry fun s' I' => ⟨.bl o.isSome, H, I', rfl, q⟩
theorem op_notInDict (hu : X.A.units + 1 < cLine) : OpR X (compareOp .NotIn) (rInDict true) := fun pins s σ H y x v u Q I ry rx ⟨a, o, ex, g, q⟩ => by
 subst ex
 obtain rfl : u = Value.ref a := rx
 exact d_notIn hu I g ry fun s' I' => ⟨.bl (!o.isSome), H, I', rfl, q⟩
theorem ao_inDict (neg : Bool) : AO2 G (kInDict neg) (rInDict neg) := fun c v w u x Q r xv xw p => by
 unfold kInDict at p
 cases q1 : dctA w c.h with
 | none => rw [q1] at p; exact p.elim
 | some kvs =>
  rw [q1] at p
  cases q2 : keyA v with
  | none => rw [q2] at p; exact p.elim
  | some k =>
   rw [q2] at p
   obtain ⟨a, us, rfl, h1, y⟩ := dct_rv r xw q1
   obtain ⟨rfl, hk⟩ := key_rv xv q2
   refine ⟨a, valV us k, rfl, .inl ⟨us, k, h1, rfl, rfl⟩, ?_⟩
   rw [y.some k]
   exact post_fin r p .bl
def pairA : AV → Option (Key × AV)
 | .tup [k, v] => (keyA k).map fun k => (k, v)
 | _ => none
def dctOf (v : AV) (h : AH) : Option (List (Key × AV)) := match dctA v h with
 | some kvs => some kvs
 | none => (lstOf v h).bind fun xs => if small xs.length then (xs.mapM pairA).map fun ps => mergeA [] ps else none
def kDictR (vs : List AV) (h : AH) : Option (AV × AH) := match vs with
 | [v] => (dctOf v h).map fun kvs => (.ref h.length, h ++ [some (.dk kvs)])
 | _ => none
@[simp] theorem kDictR_ev {v : AV} {h : AH} : kDictR [v] h = (dctOf v h).map fun kvs => (.ref h.length, h ++ [some (.dk kvs)]) := rfl
abbrev rDictD : List V → Hp → VK → Prop := fun xs H Q => ∃ (a : Addr) (kvs : List (Key × V)), xs = [.ref a] ∧ Rd H a (.dK kvs) ∧ ∀ p, H p = none → Q (.ref p) (upd H p (.dK kvs))
abbrev rDictP (K : PySem.W.Frag) : List V → Hp → VK → Prop := fun xs H Q => ∃ (a : Addr) (ps : List Addr) (kvs : List (Key × V)), xs = [.ref a] ∧ SqL K H a (ps.map V.ref) ∧ Paired (fun p kv => SqT K H p [kV kv.1, kv.2]) ps kvs ∧ ∀ p, H p = none → Q (.ref p) (upd H p (.dK (mergeK [] kvs)))
theorem pairs_rv (hK : X.K = G.K) : ∀ {xs : List AV} {us : List V} {ps : List (Key × AV)}, RVs G c xs us → xs.mapM pairA = some ps → ∃ (as : List Addr) (kvs : List (Key × V)), us = as.map V.ref ∧ Paired (fun p kv => SqT X.K c.H p [kV kv.1, kv.2]) as kvs ∧ RVd G c ps kvs
 | _, _, ps, .nil, e => by
  simp at e
  subst e
  exact ⟨[], [], rfl, .nil, .nil⟩
 | _, _, ps, .cons (x := x) r t, e => by
  rw [List.mapM_cons] at e
  cases q : pairA x with
  | none => rw [q] at e; cases e
  | some kv =>
   rw [q] at e
   rename_i xs u us
   cases q2 : xs.mapM pairA with
   | none => rw [q2] at e; cases e
   | some ps2 =>
    rw [q2] at e
    cases e
    obtain ⟨as, kvs, e1, pr, y⟩ := pairs_rv hK t q2
    unfold pairA at q
    split at q
    ·rename_i k v
     cases q3 : keyA k with
     | none => rw [q3] at q; cases q
     | some kk =>
      rw [q3] at q
      cases q
      obtain ⟨a, us2, rfl, h1, y2⟩ := rv_tup hK r
      cases y2 with
      | cons yk y3 =>
       cases y3 with
       | cons yv y4 =>
        cases y4
        obtain ⟨rfl, hk⟩ := key_rv yk q3
        rename_i uv
        exact ⟨a :: as, (kk, uv) :: kvs, by rw [e1]; rfl, .cons h1 pr, .cons hk yv y⟩
    ·cases q
theorem lst_sq (hK : X.K = G.K) {v : AV} {u : V} {xs : List AV} (r : Rel G c) (x : RV G c v u) (e : lstOf v c.h = some xs) : ∃ a us, u = .ref a ∧ SqL X.K c.H a us ∧ RVs G c xs us := by
 unfold lstOf at e
 split at e
 ·split at e
  ·rename_i n ys q
   cases e
   cases x
   obtain ⟨us, q1, y⟩ := lst_at r q
   exact ⟨_, us, rfl, .inl (.inl q1), y⟩
  ·cases e
 ·cases e
  exact rv_list hK x
 ·cases e
theorem dct_of_ok (hK : X.K = G.K) {v : AV} {u : V} {kvs : List (Key × AV)} (r : Rel G c) (x : RV G c v u) (e : dctOf v c.h = some kvs) : ∃ us, RVd G c kvs us ∧ ∀ Q : VK, (∀ p, c.H p = none → Q (.ref p) (upd c.H p (.dK us))) → rDictD [u] c.H Q ∨ rDictP X.K [u] c.H Q := by
 unfold dctOf at e
 cases q : dctA v c.h with
 | some ks =>
  rw [q] at e
  cases e
  obtain ⟨a, us, rfl, h1, y⟩ := dct_rv r x q
  exact ⟨us, y, fun Q h => .inl ⟨a, us, rfl, h1, h⟩⟩
 | none =>
  rw [q] at e
  cases q2 : lstOf v c.h with
  | none => rw [q2] at e; cases e
  | some xs =>
   rw [q2] at e
   simp only [Option.bind_some] at e
   by_cases hl : small xs.length = true
   ·rw [if_pos hl] at e
    cases q3 : xs.mapM pairA with
    | none => rw [q3] at e; cases e
    | some ps =>
     rw [q3] at e
     cases e
     obtain ⟨a, us, rfl, h1, y⟩ := lst_sq hK r x q2
     obtain ⟨as, kvs2, rfl, pr, y2⟩ := pairs_rv hK y q3
     exact ⟨_, y2.merge .nil, fun Q h => .inr ⟨a, as, kvs2, rfl, h1, pr, h⟩⟩
   ·rw [if_neg hl] at e; cases e
theorem call_dictA (hc : X.calm = true) : CallR X (.type "dict") (fun xs H Q => rDictD xs H Q ∨ rDictP X.K xs H Q) := CallR.or call_dictD (call_dictP hc)
theorem ao_dictR (hK : X.K = G.K) : AOL G kDictR (fun xs H Q => rDictD xs H Q ∨ rDictP X.K xs H Q) := fun c v us Q r x p => by
 unfold kDictR at p
 split at p
 ·rename_i v
  cases q : dctOf v c.h with
  | none => rw [q] at p; exact p.elim
  | some kvs =>
   rw [q] at p
   cases x with
   | cons x xr =>
    cases xr
    obtain ⟨us, y, f⟩ := dct_of_ok hK r x q
    exact f Q fun a ha => post_allocD (W := fun _ _ _ => False) r y ha p
 ·exact p.elim
def keyV : Key → AV
 | .inl i => .int i
 | .inr z => .str z
theorem key_back {k : Key} (h : kOk k = true) : RV G c (keyV k) (kV k) := by
 cases k with
 | inl i => exact .int
 | inr z => exact .str h
theorem keys_rv : ∀ {kvs : List (Key × AV)} {us : List (Key × V)}, RVd G c kvs us → RVs G c (kvs.map fun kv => keyV kv.1) (us.map fun kv => kV kv.1)
 | _, _, .nil => .nil
 | _, _, .cons hk _ t => .cons (key_back hk) (keys_rv t)
abbrev rListD : List V → Hp → VK → Prop := fun xs H Q => ∃ (a : Addr) (kvs : List (Key × V)), xs = [.ref a] ∧ Rd H a (.dK kvs) ∧ ∀ p, H p = none → Q (.ref p) (upd H p (.lst (kvs.map fun kv => kV kv.1)))
def kListDF (vs : List AV) (h : AH) : Option (AV × AH) := match vs with
 | [v] => (dctA v h).bind fun kvs => if small kvs.length then some (.fl (kvs.map fun kv => keyV kv.1), h) else none
 | _ => none
@[simp] theorem kListDF_ev {v : AV} {h : AH} : kListDF [v] h = (dctA v h).bind fun kvs => if small kvs.length then some (.fl (kvs.map fun kv => keyV kv.1), h) else none := rfl
theorem ao_listDF : AOL G kListDF rListD := fun c v us Q r x p => by
 unfold kListDF at p
 split at p
 ·rename_i v
  cases q : dctA v c.h with
  | none => rw [q] at p; exact p.elim
  | some kvs =>
   rw [q] at p
   simp only [Option.bind_some] at p
   by_cases hl : small kvs.length = true
   ·rw [if_pos hl] at p
    cases x with
    | cons x xr =>
     cases xr
     obtain ⟨a, us, rfl, h1, y⟩ := dct_rv r x q
     exact ⟨a, us, rfl, h1, post_lst r p (keys_rv y)⟩
   ·rw [if_neg hl] at p; exact p.elim
 ·exact p.elim
end
def leS (a b : Str) : Bool := decide (a.cps.toList ≤ b.cps.toList)
theorem leS_eq (a b : Str) : (ltCps b.cps.toList a.cps.toList = false) ↔ leS a b = true := by
 unfold leS
 rw [ltCps_eq]
 simp
theorem leS_total (a b : Str) : (leS a b || leS b a) = true := by
 simp only [leS, Bool.or_eq_true, decide_eq_true_eq]
 exact List.le_total _ _
theorem leS_trans (a b c : Str) (h1 : leS a b = true) (h2 : leS b c = true) : leS a c = true := by
 simp only [leS, decide_eq_true_eq] at *
 exact List.le_trans h1 h2
theorem leS_anti (a b : Str) (h1 : leS a b = true) (h2 : leS b a = true) : a = b := by
 simp only [leS, decide_eq_true_eq] at *
 have e := List.le_antisymm h1 h2
 cases a; cases b
 simp at e
 rw [e]
def sortA (xs : List Str) : List Str := xs.mergeSort leS
theorem sortA_perm (xs : List Str) : (sortA xs).Perm xs := List.mergeSort_perm xs leS
theorem sortA_pw (xs : List Str) : (sortA xs).Pairwise (fun a b => leS a b = true) := List.pairwise_mergeSort leS_trans leS_total xs
theorem sortA_mem {xs : List Str} {x : Str} : x ∈ sortA xs ↔ x ∈ xs := (sortA_perm xs).mem_iff
theorem sortA_len (xs : List Str) : (sortA xs).length = xs.length := (sortA_perm xs).length_eq
theorem pw_of_rising : ∀ (p : Str) (l : List Str), risingS p l = true → (p :: l).Pairwise (fun a b => leS a b = true)
 | p, [], _ => by simp
 | p, x :: r, h => by
  unfold risingS at h
  rw [Bool.and_eq_true] at h
  have h1 : leS p x = true := (leS_eq p x).mp (by simpa using h.1)
  have ih := pw_of_rising x r h.2
  refine List.pairwise_cons.mpr ⟨fun y hy => ?_, ih⟩
  rcases List.mem_cons.mp hy with rfl | hy
  ·exact h1
  ·exact leS_trans _ _ _ h1 ((List.pairwise_cons.mp ih).1 y hy)
theorem pw_of_sortedS {l : List Str} (h : sortedS l = true) : l.Pairwise (fun a b => leS a b = true) := by
 cases l with
 | nil => exact .nil
 | cons x r => exact pw_of_rising x r h
theorem sorted_uniq {xs ys : List Str} (p : xs.Perm ys) (h1 : xs.Pairwise (fun a b => leS a b = true)) (h2 : ys.Pairwise (fun a b => leS a b = true)) : xs = ys :=
 List.Perm.eq_of_pairwise (fun a b _ _ h h' => leS_anti a b h h') h1 h2 p
theorem sortA_uniq {xs ys : List Str} (p : ys.Perm xs) (h : sortedS ys = true) : ys = sortA xs :=
 sorted_uniq (p.trans (sortA_perm xs).symm) (pw_of_sortedS h) (sortA_pw xs)
theorem sortA_of {xs ys : List Str} (p : xs.Perm ys) (h : ys.Pairwise (fun a b => leS a b = true)) : sortA xs = ys :=
 sorted_uniq ((sortA_perm xs).trans p) (sortA_pw xs) h
theorem sortA_congr {xs ys : List Str} (p : xs.Perm ys) : sortA xs = sortA ys := sortA_of (p.trans (sortA_perm ys).symm) (sortA_pw ys)
def strA : AV → Option Str
 | .str z => some z
 | _ => none
theorem strs_of : ∀ {xs : List AV} {ss : List Str}, xs.mapM strA = some ss → xs = ss.map .str
 | [], ss, e => by simp at e; subst e; rfl
 | x :: r, ss, e => by
  rw [List.mapM_cons] at e
  cases x with
  | str z =>
   cases q : r.mapM strA with
   | none => rw [q] at e; cases e
   | some ts => rw [q] at e; cases e; rw [List.map_cons, strs_of q]
  | _ => cases e
theorem strs_map (ss : List Str) : (ss.map AV.str).mapM strA = some ss := by
 induction ss with
 | nil => rfl
 | cons s r ih => rw [List.map_cons, List.mapM_cons, ih]; rfl
def seqD (v : AV) (h : AH) : Option (List AV) := match dctA v h with
 | some kvs => some (kvs.map fun kv => keyV kv.1)
 | none => lstOf v h
def sortO (v : AV) (h : AH) : Option (List AV) := (seqD v h).bind fun xs => (xs.mapM strA).bind fun ss => if ss.length < 64 then some ((sortA ss).map .str) else none
def kSortF (vs : List AV) (h : AH) : Option (AV × AH) := match vs with
 | [v] => (sortO v h).map fun xs => (.fl xs, h)
 | _ => none
def kSortR (vs : List AV) (h : AH) : Option (AV × AH) := match vs with
 | [v] => (sortO v h).map fun xs => (.ref h.length, h ++ [some (.lst xs)])
 | _ => none
@[simp] theorem kSortF_ev {v : AV} {h : AH} : kSortF [v] h = (sortO v h).map fun xs => (.fl xs, h) := rfl
@[simp] theorem kSortR_ev {v : AV} {h : AH} : kSortR [v] h = (sortO v h).map fun xs => (.ref h.length, h ++ [some (.lst xs)]) := rfl
theorem sortO_of {v : AV} {h : AH} {ss : List Str} (e : seqD v h = some (ss.map .str)) (hl : ss.length < 64) : sortO v h = some ((sortA ss).map .str) := by
 unfold sortO
 rw [e]
 simp only [Option.bind_some]
 rw [strs_map]
 simp [hl]
section
variable {G : Gx} {X : Cx} {c c' : Cfg}
abbrev rSortD : List V → Hp → VK → Prop := fun xs H Q => ∃ (a : Addr) (kvs : List (Key × V)) (ks : List Str), xs = [.ref a] ∧ Rd H a (.dK kvs) ∧ kvs.map (·.1) = ks.map Sum.inr ∧ ks.length < 64 ∧
  ∀ ys p, ys.Perm ks → sortedS ys = true → H p = none → Q (.ref p) (upd H p (.lst (ys.map V.str)))
theorem call_sortA (hc : X.calm = true) : CallR X (.builtin "sorted") (fun xs H Q => rSortedS X.K xs H Q ∨ rSortD xs H Q) := CallR.or cr_sortedS (call_sortedD hc)
theorem strl_rv : ∀ {ss : List Str} {us : List V}, RVs G c (ss.map AV.str) us → us = ss.map V.str ∧ ∀ s, s ∈ ss → PyData.strOk s = true
 | [], _, .nil => ⟨rfl, fun s h => by simp at h⟩
 | s :: r, _, .cons x t => by
  obtain ⟨e, h⟩ := strl_rv t
  cases x with
  | str k => exact ⟨by rw [e]; rfl, fun z hz => by rcases List.mem_cons.mp hz with rfl | hz; (exact k); exact h z hz⟩
theorem strl_vr {ss : List Str} (h : ∀ s, s ∈ ss → PyData.strOk s = true) : RVs G c (ss.map AV.str) (ss.map V.str) := by
 induction ss with
 | nil => exact .nil
 | cons s r ih => exact .cons (.str (h s (by simp))) (ih fun z hz => h z (by simp [hz]))
theorem keys_strs : ∀ {kvs : List (Key × AV)} {us : List (Key × V)} {ss : List Str}, RVd G c kvs us → kvs.map (fun kv => keyV kv.1) = ss.map .str → us.map (·.1) = ss.map Sum.inr
 | _, _, [], .nil, _ => rfl
 | _, _, s :: r, .nil, e => by simp at e
 | _, _, [], .cons _ _ _, e => by simp at e
 | _, _, s :: r, .cons (k := k) hk x t, e => by
  rw [List.map_cons, List.map_cons] at e
  injection e with e1 e2
  have ih := keys_strs t e2
  rw [List.map_cons, List.map_cons, ih]
  cases k with
  | inl i => cases e1
  | inr z => cases e1; rfl
theorem sort_cases (hK : X.K = G.K) {v : AV} {u : V} {xs : List AV} (r : Rel G c) (x : RV G c v u) (e : sortO v c.h = some xs) : ∃ us, RVs G c xs us ∧ ∀ Q : VK, (∀ l, c.H l = none → Q (.ref l) (upd c.H l (.lst us))) → rSortedS X.K [u] c.H Q ∨ rSortD [u] c.H Q := by
 unfold sortO at e
 cases q : seqD v c.h with
 | none => rw [q] at e; cases e
 | some ys =>
  rw [q] at e
  simp only [Option.bind_some] at e
  cases q2 : ys.mapM strA with
  | none => rw [q2] at e; cases e
  | some ss =>
   rw [q2] at e
   simp only [Option.bind_some] at e
   have ey := strs_of q2
   subst ey
   by_cases hl : ss.length < 64
   ·rw [if_pos hl] at e
    cases e
    unfold seqD at q
    cases q3 : dctA v c.h with
    | some kvs =>
     rw [q3] at q
     simp only [Option.some.injEq] at q
     obtain ⟨a, us, rfl, h1, y⟩ := dct_rv r x q3
     have hs := strl_rv (G := G) (c := c) (q ▸ keys_rv y)
     refine ⟨_, strl_vr fun s h => hs.2 s (sortA_mem.mp h), fun Q f => .inr ⟨a, us, ss, rfl, h1, keys_strs y q, hl, fun zs p pm sr hp => ?_⟩⟩
     rw [sortA_uniq pm sr]
     exact f p hp
    | none =>
     rw [q3] at q
     simp only at q
     obtain ⟨a, us, rfl, h1, y⟩ := lst_sq hK r x q
     obtain ⟨eu, hs⟩ := strl_rv y
     subst eu
     refine ⟨_, strl_vr fun s h => hs s (sortA_mem.mp h), fun Q f => .inl ⟨a, ss, rfl, h1, hl, fun zs p pm sr hp => ?_⟩⟩
     rw [sortA_uniq pm sr]
     exact f p hp
   ·rw [if_neg hl] at e; cases e
theorem ao_sortF (hK : X.K = G.K) : AOL G kSortF (fun xs H Q => rSortedS X.K xs H Q ∨ rSortD xs H Q) := fun c v us Q r x p => by
 unfold kSortF at p
 split at p
 ·rename_i v
  cases q : sortO v c.h with
  | none => rw [q] at p; exact p.elim
  | some xs =>
   rw [q] at p
   cases x with
   | cons x xr =>
    cases xr
    obtain ⟨us, y, f⟩ := sort_cases hK r x q
    exact f Q (post_lst r p y)
 ·exact p.elim
theorem ao_sortR (hK : X.K = G.K) : AOL G kSortR (fun xs H Q => rSortedS X.K xs H Q ∨ rSortD xs H Q) := fun c v us Q r x p => by
 unfold kSortR at p
 split at p
 ·rename_i v
  cases q : sortO v c.h with
  | none => rw [q] at p; exact p.elim
  | some xs =>
   rw [q] at p
   cases x with
   | cons x xr =>
    cases xr
    obtain ⟨us, y, f⟩ := sort_cases hK r x q
    exact f Q fun l hl => post_allocL (W := fun _ _ _ => False) r y hl p
 ·exact p.elim
end
section
variable {G : Gx} {B : Bx} {zs : Addr → Prop} {W : WX} {X : Cx} {c c' : Cfg} {L : List Addr} {τ : AS} {σ : SL} {pos pos' p apos cpos tpos : Pos} {e o a b f : Expr} {es : List Expr} {m n mo me mi mx : ME} {ma mk : MA} {mt : MT} {x s : Str} {i : Nat} {vs : List Nat}
end
end PI
namespace PI
open PySem PySem.Spec PyProof.Rows L2
def Goon (Q : AS → AH → Prop) (r : SRes) : Prop := ∃ τ h, r = .nx τ h ∧ Q τ h
section
variable {Q : AS → AH → Prop} {R : AV → AH → Prop} {τ : AS} {h : AH} {v : AV}
@[simp] theorem goon_nx : Goon Q (.nx τ h) ↔ Q τ h := ⟨fun ⟨_, _, e, q⟩ => by cases e; exact q, fun q => ⟨_, _, rfl, q⟩⟩
theorem Goon.imp {Q' : AS → AH → Prop} {r : SRes} (g : Goon Q r) (f : ∀ τ h, Q τ h → Q' τ h) : Goon Q' r := let ⟨_, _, e, q⟩ := g; ⟨_, _, e, f _ _ q⟩
end
theorem goon_for {g : MG} {b : MS} (I : AS → AH → Prop) : ∀ (vs : List AV), (∀ v, v ∈ vs → ∀ τ h, I τ h → ∃ τ1, g v τ = some τ1 ∧ Goon I (b τ1 h)) → ∀ τ h, I τ h → Goon I (forL g b vs τ h)
 | [], _, τ, h, i => ⟨τ, h, rfl, i⟩
 | v :: r, H, τ, h, i => by
  obtain ⟨τ1, e1, τ2, h2, e2, i2⟩ := H v (by simp) τ h i
  rw [forL_cons e1 e2]
  exact goon_for I r (fun w hw => H w (by simp [hw])) τ2 h2 i2
theorem Goon.thn {I : AS → AH → Prop} {P : SRes → Prop} {r : SRes} {n : MS} (g : Goon I r) (f : ∀ τ h, I τ h → P (n τ h)) : P (r.thn n) := by
 obtain ⟨τ, h, e, q⟩ := g
 rw [e]
 exact f τ h q
theorem lcL_eff {g : MG} {me : ME} {τ : AS} (R : AV → AV → Prop) (I : AH → Prop) : ∀ (vs : List AV), (∀ v, v ∈ vs → ∀ h, I h → ∃ τ2 y h2, g v τ = some τ2 ∧ me τ2 h = .ok y h2 ∧ R v y ∧ I h2) → ∀ (acc : List AV) (h : AH), I h → acc.length + vs.length ≤ 16777216 →
  ∃ ys h', lcL g mYes me τ vs acc h = .ok (.fl (acc ++ ys)) h' ∧ Al2 R vs ys ∧ I h'
 | [], H, acc, h, i, hl => ⟨[], h, by simp [lcL], .nil, i⟩
 | v :: r, H, acc, h, i, hl => by
  obtain ⟨τ2, y, h2, e1, e2, hr, i2⟩ := H v (by simp) h i
  obtain ⟨ys, h', e3, al, i3⟩ := lcL_eff R I r (fun w hw => H w (by simp [hw])) (acc ++ [y]) h2 i2 (by simp at hl ⊢; omega)
  refine ⟨y :: ys, h', ?_, .cons hr al, i3⟩
  rw [lcL, e1]
  have hs : small (acc.length + 1) = true := decide_eq_true (by simp at hl; omega)
  simp only [mYes, noX, Res.bind, if_true, e2, hs]
  rw [e3]
  simp
theorem al2_strs {R : AV → AV → Prop} {P : Str → Str → Prop} (hR : ∀ m y, R (.str m) y → ∃ x, y = .str x ∧ P m x) : ∀ {ms : List Str} {ys : List AV}, Al2 R (ms.map .str) ys → ∃ xs : List Str, ys = xs.map .str ∧ Al2 P ms xs
 | [], _, .nil => ⟨[], rfl, .nil⟩
 | m :: ms, _, .cons r t => by
  obtain ⟨x, e, p⟩ := hR m _ r
  obtain ⟨xs, e2, t2⟩ := al2_strs hR t
  exact ⟨x :: xs, by rw [e, e2]; rfl, .cons p t2⟩
theorem Al2.ex {α β : Type} {R : α → β → Prop} {as : List α} {bs : List β} (h : Al2 R as bs) : ∀ b, b ∈ bs → ∃ a, a ∈ as ∧ R a b := by
 induction h with
 | nil => intro b hb; simp at hb
 | @cons a b as bs r t ih =>
  intro c hc
  rcases List.mem_cons.mp hc with rfl | hc
  ·exact ⟨a, by simp, r⟩
  ·obtain ⟨x, hx, q⟩ := ih c hc
   exact ⟨x, by simp [hx], q⟩
theorem Al2.nodup {α β : Type} {R : α → β → Prop} {as : List α} {bs : List β} (h : Al2 R as bs) (hi : ∀ a a' b, R a b → R a' b → a = a') (hn : as.Nodup) : bs.Nodup := by
 induction h with
 | nil => exact List.nodup_nil
 | @cons a b as bs r t ih =>
  obtain ⟨n1, n2⟩ := List.nodup_cons.mp hn
  refine List.nodup_cons.mpr ⟨fun c => ?_, ih n2⟩
  obtain ⟨x, hx, q⟩ := t.ex b c
  exact n1 (hi a x b r q ▸ hx)
structure Fr (n : Nat) (h h' : AH) : Prop where
 len : h.length ≤ h'.length
 keep : ∀ j, j < h.length → j ≠ n → h'[j]? = h[j]?
theorem Fr.refl {n : Nat} {h : AH} : Fr n h h := ⟨Nat.le_refl _, fun _ _ _ => rfl⟩
theorem Fr.trans {n : Nat} {h h1 h2 : AH} (a : Fr n h h1) (b : Fr n h1 h2) : Fr n h h2 := ⟨Nat.le_trans a.len b.len, fun j hj hn => (b.keep j (Nat.lt_of_lt_of_le hj a.len) hn).trans (a.keep j hj hn)⟩
theorem Fr.at {n m : Nat} {h h' : AH} {o : AO} (f : Fr n h h') (e : h[m]? = some (some o)) (hm : m ≠ n) : h'[m]? = some (some o) :=
 (f.keep m (List.getElem?_eq_some_iff.mp e).1 hm).trans e
theorem Fr.set {n : Nat} {h : AH} {o : Option AO} : Fr n h (h.set n o) := ⟨by simp, fun j _ hn => by rw [gsn (Ne.symm hn)]⟩
theorem Fr.app {n : Nat} {h : AH} {os : AH} : Fr n h (h ++ os) := ⟨by simp, fun j hj _ => List.getElem?_append_left hj⟩
structure Kp (h h' : AH) : Prop where
 len : h.length ≤ h'.length
 keep : ∀ j, j < h.length → h'[j]? = h[j]?
theorem Kp.refl {h : AH} : Kp h h := ⟨Nat.le_refl _, fun _ _ => rfl⟩
theorem Kp.trans {h h1 h2 : AH} (a : Kp h h1) (b : Kp h1 h2) : Kp h h2 := ⟨Nat.le_trans a.len b.len, fun j hj => (b.keep j (Nat.lt_of_lt_of_le hj a.len)).trans (a.keep j hj)⟩
theorem Kp.at {m : Nat} {h h' : AH} {o : AO} (f : Kp h h') (e : h[m]? = some (some o)) : h'[m]? = some (some o) :=
 (f.keep m (List.getElem?_eq_some_iff.mp e).1).trans e
theorem Kp.app {h os : AH} : Kp h (h ++ os) := ⟨by simp, fun j hj => List.getElem?_append_left hj⟩
theorem Kp.fr {n : Nat} {h h' : AH} (f : Kp h h') : Fr n h h' := ⟨f.len, fun j hj _ => f.keep j hj⟩
theorem at_lt {h : AH} {m : Nat} {o : AO} (e : h[m]? = some (some o)) : m < h.length := (List.getElem?_eq_some_iff.mp e).1
theorem at_set {h : AH} {m : Nat} {o : AO} {o' : Option AO} (e : h[m]? = some (some o)) : (h.set m o')[m]? = some o' := by rw [List.getElem?_set_self (at_lt e)]
end PI
namespace PI
open PySem PySem.Spec PyProof.Rows L2 ClX
def txB (x : Str) : Bool := PyData.strOk x && decide (x.length ≤ 100000)
theorem txB_le {x : Str} (e : txB x = true) : x.length ≤ 100000 := by
 unfold txB at e
 rw [Bool.and_eq_true] at e
 exact of_decide_eq_true e.2
theorem txB_ok {x : Str} (e : txB x = true) : PyData.strOk x = true := by
 unfold txB at e
 rw [Bool.and_eq_true] at e
 exact e.1
theorem txB_mk {x : Str} (h : PyData.strOk x = true) (hl : x.length ≤ 100000) : txB x = true := by
 unfold txB
 rw [h, decide_eq_true hl]
 rfl
theorem strS_of {x : Str} (e : txB x = true) : strS x.length = true := by
 have := txB_le e
 unfold strS
 exact decide_eq_true (by omega)
theorem len_tl (x : Str) : x.cps.toList.length = x.length := by simp [Str.length]
theorem mem_ok {x : Str} (e : PyData.strOk x = true) : ∀ k, k ∈ TL.tl x → k < 0x110000 := by
 unfold PyData.strOk at e
 rw [Array.all_eq_true'] at e
 intro k hk
 simpa using e k (by simpa using hk)
theorem ok_mem {x : Str} (e : ∀ k, k ∈ TL.tl x → k < 0x110000) : PyData.strOk x = true := by
 unfold PyData.strOk
 rw [Array.all_eq_true']
 intro k hk
 simpa using e k (by simpa using hk)
theorem len_app (x y : Str) : (x ++ y).length = x.length + y.length := by
 rw [TL.len_tl, TL.len_tl x, TL.len_tl y, TL.tl_append, List.length_append]
theorem txB_app {x y : Str} (h1 : txB x = true) (h2 : txB y = true) (hl : x.length + y.length ≤ 100000) : txB (x ++ y) = true :=
 txB_mk (strOk_app (txB_ok h1) (txB_ok h2)) (by rw [len_app]; exact hl)
theorem txB_sub {x y : Str} (h : txB x = true) (hs : ∀ k, k ∈ TL.tl y → k ∈ TL.tl x) (hl : y.length ≤ x.length) : txB y = true :=
 txB_mk (ok_mem fun k hk => mem_ok (txB_ok h) k (hs k hk)) (Nat.le_trans hl (txB_le h))
structure Sep1 (y : Str) (s : Nat) : Prop where
 tl : TL.tl y = [s]
 lo : y.cps.all (· < 256) = true
section
variable {x y : Str} {s : Nat}
theorem Sep1.ne (e : Sep1 y s) : (y.length != 0) = true := by rw [TL.len_tl, e.tl]; rfl
theorem Sep1.len (e : Sep1 y s) : y.length = 1 := by rw [TL.len_tl, e.tl]; rfl
theorem cut_no (e : Sep1 y s) (h : s ∉ TL.tl x) : Txt.partition x y = (x, Str.empty, Str.empty) ∧ Txt.split x y = [x] := by
 refine ⟨TL.partition_none (s := s) (S := []) e.tl h, ?_⟩
 have q := TL.split_spl x y (by rw [e.tl]; simp) (TL.kind_ok e.lo)
 rw [e.tl, TL.spl_last1 h, List.nil_append] at q
 exact TL.map_tl_inj (m := [x]) q
theorem cut_at (e : Sep1 y s) (h : s ∈ TL.tl x) : ∃ a b : Str, x = a ++ y ++ b ∧ s ∉ TL.tl a ∧ Txt.partition x y = (a, y, b) ∧ Txt.split x y = a :: Txt.split b y := by
 obtain ⟨p, q, ex, hp⟩ := List.eq_append_cons_of_mem h
 have ep : TL.tl ⟨p.toArray⟩ = p := TL.tl_mk p
 have eq' : TL.tl ⟨q.toArray⟩ = q := TL.tl_mk q
 have ex2 : x = (⟨p.toArray⟩ : Str) ++ y ++ ⟨q.toArray⟩ := TL.ext_tl (by rw [TL.tl_append, TL.tl_append, ep, eq', e.tl, ex]; simp)
 refine ⟨⟨p.toArray⟩, ⟨q.toArray⟩, ex2, by rw [ep]; exact hp, ?_, ?_⟩
 ·rw [ex2]
  exact TL.partition_app (s := s) (S := []) e.tl (by rw [ep]; exact hp)
 ·apply TL.map_tl_inj
  rw [List.map_cons, TL.split_spl x y (by rw [e.tl]; simp) (TL.kind_ok e.lo), TL.split_spl _ y (by rw [e.tl]; simp) (TL.kind_ok e.lo), e.tl, ep, eq', ex]
  have q2 := TL.spl_part1 (s := s) (S := []) (p := p) (rest := q) (acc := []) hp
  simpa using q2
theorem txB_part (e : Sep1 y s) (hy : txB y = true) (h : txB x = true) : txB (Txt.partition x y).1 = true ∧ txB (Txt.partition x y).2.1 = true ∧ txB (Txt.partition x y).2.2 = true := by
 by_cases q : s ∈ TL.tl x
 ·obtain ⟨a, b, ex, ha, ep, _⟩ := cut_at e q
  rw [ep]
  subst ex
  simp only
  exact ⟨txB_sub h (fun k hk => by rw [TL.tl_append, TL.tl_append]; simp [hk]) (by rw [len_app, len_app]; omega), hy, txB_sub h (fun k hk => by rw [TL.tl_append, TL.tl_append]; simp [hk]) (by rw [len_app, len_app]; omega)⟩
 ·rw [(cut_no e q).1]
  exact ⟨h, (by decide +kernel : txB Str.empty = true), (by decide +kernel : txB Str.empty = true)⟩
theorem kPart_ok (e : Sep1 y s) (hy : txB y = true) (h : txB x = true) (hh : AH) : kPart x (.str y) hh = some (.tup [.str (Txt.partition x y).1, .str (Txt.partition x y).2.1, .str (Txt.partition x y).2.2], hh) := by
 have h1 : txtOk x.length = true := decide_eq_true (by have := txB_le h; omega)
 obtain ⟨a, b, c⟩ := txB_part e hy h
 unfold kPart
 simp only [e.ne, h1, txB_ok a, txB_ok b, txB_ok c, Bool.and_self, if_true]
end
section
variable {G : Gx} {B : Bx} {zs : Addr → Prop} {W : WX} {X : Cx} {c c' : Cfg} {L : List Addr} {τ : AS} {σ : SL} {pos pos' p apos cpos tpos c0 c1 : Pos} {e o a b f : Expr} {es : List Expr} {m n mo me mi mx : ME} {ma mk : MA} {mt : MT} {x y z s : Str} {i j k : Nat} {vs : List Nat} {te tb : TE} {t : TA}
end
section
variable {G : Gx} {c c' c2 : Cfg} {a b : Addr} {n : Nat}
structure Mw (c c' : Cfg) : Prop where
 len : c.h.length ≤ c'.h.length
 same : ∀ n : Nat, n < c.h.length → c'.rho n = c.rho n
 keep : ∀ b o, c.H b = some o → isTbl o = false → Frz c b → c'.H b = some o ∧ Frz c' b
theorem Mw.rd {u : HO} (N : Mw c c') (r : Rd c.H a u) (f : Frz c a) (hu : isTbl u = false := by rfl) : Rd c'.H a u ∧ Frz c' a := by
  rcases r with e | ⟨o, e⟩
  · exact ⟨.inl (N.keep _ _ e hu f).1, (N.keep _ _ e hu f).2⟩
  · exact ⟨.inr ⟨o, (N.keep _ _ e rfl f).1⟩, (N.keep _ _ e rfl f).2⟩
mutual
theorem RV.mw (N : Mw c c') : ∀ {v : AV} {u : V}, RV G c v u → RV G c' v u
 | _, _, .non => .non
 | _, _, .bl => .bl
 | _, _, .int => .int
 | _, _, .str k => .str k
 | _, _, .ty => .ty
 | _, _, .cls => .cls
 | _, _, .fn => .fn
 | _, _, .kd => .kd
 | _, _, .ref (n := n) hn => by rw [← N.same n hn]; exact .ref (Nat.lt_of_lt_of_le hn N.len)
 | _, _, .tup r f x => .tup (N.rd r f).1 (N.rd r f).2 (RVs.mw N x)
 | _, _, .tupK k x => .tupK k (RVs.mw N x)
 | _, _, .fl r f x => .fl (N.rd r f).1 (N.rd r f).2 (RVs.mw N x)
 | _, _, .flK k x => .flK k (RVs.mw N x)
 | _, _, .fd r f x => .fd (N.rd r f).1 (N.rd r f).2 (RVd.mw N x)
 | _, _, .obj e f x => .obj (N.keep _ _ e rfl f).1 (N.keep _ _ e rfl f).2 (RVf.mw N x)
theorem RVs.mw (N : Mw c c') : ∀ {v : List AV} {u : List V}, RVs G c v u → RVs G c' v u
 | _, _, .nil => .nil
 | _, _, .cons r x => .cons (RV.mw N r) (RVs.mw N x)
theorem RVf.mw (N : Mw c c') : ∀ {v : List (Nat × AV)} {u : List (Str × V)}, RVf G c v u → RVf G c' v u
 | _, _, .nil => .nil
 | _, _, .cons r x => .cons (RV.mw N r) (RVf.mw N x)
theorem RVd.mw (N : Mw c c') : ∀ {v : List (Key × AV)} {u : List (Key × V)}, RVd G c v u → RVd G c' v u
 | _, _, .nil => .nil
 | _, _, .cons k r x => .cons k (RV.mw N r) (RVd.mw N x)
end
theorem RO.mw {o : AO} (N : Mw c c') (e : c'.H a = c.H a) (r : RO G c o a) : RO G c' o a := by
 cases o with
 | lst xs => obtain ⟨us, q, x⟩ := r; exact ⟨us, e.trans q, x.mw N⟩
 | dk xs => obtain ⟨us, q, x⟩ := r; exact ⟨us, e.trans q, x.mw N⟩
 | ins c fs => obtain ⟨dx, us, q, x⟩ := r; exact ⟨dx, us, e.trans q, x.mw N⟩
def lkIn (c : Cfg) (n : Nat) (d : Addr) (O : HO) : Cfg := { c with Z := fun a => c.Z a ∨ a = d, h := c.h.set n none, H := upd c.H d O }
def lkOut (c c2 : Cfg) (n : Nat) (d : Addr) (o : AO) (O : HO) : Cfg := { c2 with Z := c.Z, h := c2.h.set n (some o), H := upd c2.H d O }
theorem set_live {h : AH} {n m : Nat} {o : AO} (e : (h.set n none)[m]? = some (some o)) : m ≠ n ∧ h[m]? = some (some o) := by
 by_cases q : n = m
 ·subst q
  by_cases hn : n < h.length
  ·rw [List.getElem?_set_self hn] at e; cases e
  ·rw [List.getElem?_eq_none_iff.mpr (by simp; omega)] at e; cases e
 ·rw [gsn q] at e
  exact ⟨fun z => q z.symm, e⟩
theorem lkIn_mv {o : AO} {O : HO} (e : c.h[n]? = some (some o)) : Mv c (lkIn c n (c.rho n) O) := by
 refine ⟨by simp [lkIn], fun m q => ?_, fun _ _ => rfl, fun m u hm q => ?_, fun b u q _ f => ?_, fun b u q f z => ?_, fun b u q => ?_⟩
 ·show (c.h.set n none)[m]? = some none
  rw [gsn (fun z => by rw [← z, e] at q; cases q)]; exact q
 ·have := (set_live (show (c.h.set n none)[m]? = some (some u) from q)).2
  exact (beyond hm this).elim
 ·show upd c.H (c.rho n) O b = some u
  rw [upd_ne (fun z => f.1 n o e z.symm)]; exact q
 ·rcases z with z | z
  ·exact f.2 z
  ·exact f.1 n o e z.symm
 ·show ∃ o', upd c.H (c.rho n) O b = some o'
  by_cases hb : b = c.rho n
  ·subst hb; exact ⟨O, upd_same⟩
  ·exact ⟨u, by rw [upd_ne hb]; exact q⟩
theorem lkIn_rel {o : AO} {O : HO} (r : Rel G c) (e : c.h[n]? = some (some o)) (ht : isHid O = false := by rfl) : Rel G (lkIn c n (c.rho n) O) := by
  have M := lkIn_mv (O := O) e
  refine ⟨fun m u q => ?_, fun m m' u u' q q' => ?_, fun x z => ?_, fun p hp => (r.tab p hp).of fun b u q hu => (upd_ne fun y => notHid_ro (r.obj n o e) (by rw [← y]; exact q) hu).trans q⟩
  · obtain ⟨hm, q⟩ := set_live (show (c.h.set n none)[m]? = some (some u) from q)
    exact (r.obj m u q).mono M (upd_ne fun z => hm (r.inj _ _ _ _ q e z))
  · exact r.inj m m' u u' (set_live (show (c.h.set n none)[m]? = some (some u) from q)).2 (set_live (show (c.h.set n none)[m']? = some (some u') from q')).2
  · rcases z with z | z
    · obtain ⟨na, u, q, tu⟩ := r.zok x z
      have hx : x ≠ c.rho n := fun y => na n o e y.symm
      exact ⟨fun m u q => na m u (set_live (show (c.h.set n none)[m]? = some (some u) from q)).2, u, by show upd c.H (c.rho n) O x = _; rw [upd_ne hx]; exact q, tu⟩
    · subst z
      refine ⟨fun m u q y => ?_, O, upd_same, ht⟩
      obtain ⟨hm, q⟩ := set_live (show (c.h.set n none)[m]? = some (some u) from q)
      exact hm (r.inj _ _ _ _ q e y)
theorem lkOut_nxt {o : AO} {O O' : HO} (r : Rel G c) (e : c.h[n]? = some (some o)) (N : Nxt G (lkIn c n (c.rho n) O) c2) (new : ∀ c3, Mv c c3 → c3.H (c.rho n) = some O' → RO G c3 o (c.rho n)) :
  Nxt G c (lkOut c c2 n (c.rho n) o O') ∧ Mw c2 (lkOut c c2 n (c.rho n) o O') := by
 have M := lkIn_mv (O := O) e
 have hn : n < c.h.length := by
  rcases Nat.lt_or_ge n c.h.length with q | q
  ·exact q
  ·rw [List.getElem?_eq_none_iff.mpr q] at e; cases e
 have hl : c.h.length ≤ c2.h.length := by have := N.mv.len; simpa [lkIn] using this
 have hr : c2.rho n = c.rho n := N.mv.same n (by simpa [lkIn] using hn)
 have zd : c2.Z (c.rho n) := by rw [N.z]; exact .inr rfl
 have nad : NA c2 (c.rho n) := (N.rel.zok _ zd).1
 have live : ∀ {m : Nat} {u : AO}, (c2.h.set n (some o))[m]? = some (some u) → (m = n ∧ u = o) ∨ (m ≠ n ∧ c2.h[m]? = some (some u)) := fun {m u} q => by
  by_cases hm : n = m
  ·subst hm
   rw [List.getElem?_set_self (Nat.lt_of_lt_of_le hn hl)] at q
   cases q
   exact .inl ⟨rfl, rfl⟩
  ·rw [gsn hm] at q
   exact .inr ⟨fun z => hm z.symm, q⟩
 have Mc : Mv c (lkOut c c2 n (c.rho n) o O') := by
  refine ⟨by simp [lkOut]; exact hl, fun m q => ?_, fun m hm => N.mv.same m (by simpa [lkIn] using hm), fun m u hm q => ?_, fun b u q ht f => ?_, fun b u q f => f.2, fun b u q => ?_⟩
  ·have hm : n ≠ m := fun z => by rw [← z, e] at q; cases q
   show (c2.h.set n (some o))[m]? = some none
   rw [gsn hm]
   refine N.mv.dead m ?_
   show (c.h.set n none)[m]? = some none
   rw [gsn hm]
   exact q
  ·rcases live q with ⟨rfl, _⟩ | ⟨_, q⟩
   ·omega
   ·have y := N.mv.fresh m u (by simpa [lkIn] using hm) q
    show c.H (c2.rho m) = none
    have y : upd c.H (c.rho n) O (c2.rho m) = none := y
    by_cases hx : c2.rho m = c.rho n
    ·rw [hx, upd_same] at y; cases y
    ·rw [upd_ne hx] at y; exact y
  ·have hb : b ≠ c.rho n := fun z => f.1 n o e z.symm
   show upd c2.H (c.rho n) O' b = some u
   rw [upd_ne hb]
   exact N.mv.keep b u (M.keep b u q ht f) ht (M.frz f q)
  ·show ∃ o', upd c2.H (c.rho n) O' b = some o'
   by_cases hb : b = c.rho n
   ·subst hb; exact ⟨O', upd_same⟩
   ·obtain ⟨u1, q1⟩ := M.there b u q
    obtain ⟨u2, q2⟩ := N.mv.there b u1 q1
    exact ⟨u2, by rw [upd_ne hb]; exact q2⟩
 have Mx : Mw c2 (lkOut c c2 n (c.rho n) o O') := by
  refine ⟨by simp [lkOut], fun _ _ => rfl, fun b u q _ f => ?_⟩
  have hb : b ≠ c.rho n := fun z => f.2 (by rw [z]; exact zd)
  refine ⟨by show upd c2.H (c.rho n) O' b = some u; rw [upd_ne hb]; exact q, fun m w qm => ?_, fun z => f.2 (by rw [N.z]; exact .inl z)⟩
  rcases live qm with ⟨rfl, _⟩ | ⟨_, qm⟩
  ·exact fun z => hb (z.symm.trans hr)
  ·exact f.1 m w qm
 refine ⟨⟨⟨fun m u q => ?_, fun m m' u u' q q' z => ?_, fun x z => ?_, fun p hp => (N.rel.tab p hp).of fun b u q hu => (upd_ne fun y => by
  obtain ⟨_, o2, q2, t2⟩ := N.rel.zok _ zd
  rw [y, q2] at q
  cases q
  rw [t2] at hu
  cases hu).trans q⟩, Mc, rfl, fun x z => ?_⟩, Mx⟩
 ·rcases live q with ⟨rfl, rfl⟩ | ⟨hm, q⟩
  ·show RO G _ _ (c2.rho m)
   rw [hr]
   exact new _ Mc upd_same
  ·exact (N.rel.obj m u q).mw Mx (upd_ne fun z => nad m u q z)
 ·rcases live q with ⟨h1, _⟩ | ⟨_, qa⟩
  ·rcases live q' with ⟨h2, _⟩ | ⟨_, qb⟩
   ·rw [h1, h2]
   ·have z : c2.rho m = c2.rho m' := z
    rw [h1, hr] at z
    exact (nad _ _ qb z.symm).elim
  ·rcases live q' with ⟨h2, _⟩ | ⟨_, qb⟩
   ·have z : c2.rho m = c2.rho m' := z
    rw [h2, hr] at z
    exact (nad _ _ qa z).elim
   ·exact N.rel.inj _ _ _ _ qa qb z
 ·have z : c.Z x := z
  have z2 : c2.Z x := by rw [N.z]; exact .inl z
  have hx : x ≠ c.rho n := fun y => (r.zok x z).1 n o e y.symm
  obtain ⟨na, u, q, tu⟩ := N.rel.zok x z2
  refine ⟨fun m w qm => ?_, u, by show upd c2.H (c.rho n) O' x = some u; rw [upd_ne hx]; exact q, tu⟩
  rcases live qm with ⟨rfl, _⟩ | ⟨_, qm⟩
  ·exact fun y => hx (y.symm.trans hr)
  ·exact na m w qm
 ·have hx : x ≠ c.rho n := fun y => (r.zok x z).1 n o e y.symm
  show upd c2.H (c.rho n) O' x = c.H x
  rw [upd_ne hx, N.zz x (.inl z)]
  show upd c.H (c.rho n) O x = c.H x
  rw [upd_ne hx]
end
section
variable {G : Gx} {B : Bx} {zs : Addr → Prop} {W : WX} {X : Cx} {c c' c1 : Cfg} {L : List Addr} {τ : AS} {σ : SL} {pos pos' p : Pos} {e o a : Expr} {me m : ME} {ma : MA} {mt : MT} {x s : Str} {i : Nat}
theorem lc_go {g : MG} {Q : VK} {xs : List AV} {J : It} (vs : List Nat) (rel1 : Rel G c1) (s1 : RS G B c1 L τ σ)
  (gs : ∃ Gd Y, Walk J xs.length Gd Y ∧ (∀ c', Mv c1 c' → (∀ a, c1.Z a → c'.H a = c1.H a) → Gd c'.H) ∧ ∀ c' i x H'' v, Mv c1 c' → Rel G c' → xs[i]? = some v → Y i c'.H x H'' → Nxt G c' { c' with H := H'' } ∧ RV G { c' with H := H'' } v x)
  (p1 : Post G (RV G) c1 (fun k d H' => W k d σ H') Q (lcL g mt me (wipeA τ vs) xs [] c1.h)) : tLc (fun σ H R => R J H) (tGe G B vs g) (tIt G B W0 mt) (tI G B W0 me) vs σ c1.H Q := by
 obtain ⟨Gd, Y, w, hG, hY⟩ := gs
 intro D hD
 obtain ⟨L0, hL0, sw⟩ := s1.wipeAll vs
 let Z1 : Addr → Prop := fun a => c1.Z a ∨ a = D
 have nDZ : ¬ c1.Z D := rel1.nz hD
 have nDL : ∀ a, a ∈ L0 → c1.Z a := fun a h => s1.z a (hL0 a h)
 refine ⟨fun i k H => ∃ (c2 : Cfg) (acc : List AV) (us : List V), c2.H = H ∧ k + i = xs.length ∧ Rel G c2 ∧ Mv c1 c2 ∧ (∀ a, c2.Z a ↔ (c1.Z a ∨ a = D)) ∧ (∀ a, c1.Z a → c2.H a = c1.H a) ∧ c2.H D = some (.lst us) ∧ RVs G c2 acc us ∧
   Post G (RV G) c1 (fun k d H' => W k d σ H') Q (lcL g mt me (wipeA τ vs) (xs.drop i) acc c2.h),
  ⟨xs.length, { c1 with Z := fun a => c1.Z a ∨ a = D, H := upd c1.H D (.lst []) }, [], [], rfl, rfl, rel1.mine hD, Mv.mine hD, fun a => Iff.rfl, fun a z => upd_ne fun y => nDZ (by rw [← y]; exact z), upd_same, .nil, p1⟩, ?_⟩
 rintro i k H ⟨c2, acc, us, rfl, hk, r2, M2, hZ, hH, hD2, y2, p2⟩
 have hg2 := hG c2 M2 hH
 by_cases hi2 : i < xs.length
 ·refine .inr ⟨w.goes i c2.H hi2 hg2, fun H' => ∃ k', k' < k ∧ ∃ (c3 : Cfg) (acc : List AV) (us : List V), c3.H = H' ∧ k' + (i + 1) = xs.length ∧ Rel G c3 ∧ Mv c1 c3 ∧ (∀ a, c3.Z a ↔ (c1.Z a ∨ a = D)) ∧ (∀ a, c1.Z a → c3.H a = c1.H a) ∧ c3.H D = some (.lst us) ∧ RVs G c3 acc us ∧
    Post G (RV G) c1 (fun k d H' => W k d σ H') Q (lcL g mt me (wipeA τ vs) (xs.drop (i + 1)) acc c3.h), fun H' h => h, fun x H' y => ?_⟩
  obtain ⟨N3, x3⟩ := hY c2 i x H' xs[i] M2 r2 (by simp [hi2]) (w.yields i c2.H x H' hi2 hg2 y)
  rw [List.drop_eq_getElem_cons hi2] at p2
  unfold lcL at p2
  cases q : g xs[i] (wipeA τ vs) with
  | none => rw [q] at p2; exact p2.elim
  | some τ2 =>
   rw [q] at p2
   simp only at p2
   have cz : ∀ a, c1.Z a → c2.Z a := fun a z => (hZ a).mpr (.inl z)
   have sw2 : RS G B c2 L0 (wipeA τ vs) (wipe σ vs) := sw.mono M2 fun a h => ⟨cz a (nDL a h), hH a (nDL a h)⟩
   have sw3 := sw2.nxt N3
   have rest : ∀ {c4 : Cfg}, Nxt G c2 c4 → (Rel G c4 ∧ Mv c1 c4 ∧ (∀ a, c4.Z a ↔ (c1.Z a ∨ a = D)) ∧ (∀ a, c1.Z a → c4.H a = c1.H a) ∧ c4.H D = some (.lst us) ∧ RVs G c4 acc us) := fun {c4} N => by
    refine ⟨N.rel, M2.trans N.mv, fun a => by rw [N.z]; exact hZ a, fun a z => (N.zz a (cz a z)).trans (hH a z), (N.zz D ((hZ D).mpr (.inr rfl))).trans hD2, y2.mono N.mv⟩
   refine ⟨{ c2 with H := H' }, _, L0, xs[i], τ2, rfl, N3.rel, sw3, x3, q, fun σ2 s2 hw => ⟨hw.trans wipe_idem, { c2 with H := H' }, τ2, L0, rfl, N3.rel, s2, ?_⟩⟩
   revert p2
   cases eT : mt τ2 c2.h with
   | exc _ _ _ => exact fun p2 => p2.elim
   | stuck => exact fun p2 => p2.elim
   | ok b h4 =>
    intro p2 c4 u4 N4 e4 x4
    subst x4
    subst e4
    have p2 : Post G (RV G) c1 (fun k d H' => W k d σ H') Q (if b = true then (noX (me τ2 c4.h)).bind fun y h => if small (acc.length + 1) then lcL g mt me (wipeA τ vs) (xs.drop (i + 1)) (acc ++ [y]) h else .stuck else lcL g mt me (wipeA τ vs) (xs.drop (i + 1)) acc c4.h) := p2
    have N24 := N3.trans N4
    cases b with
    | false =>
     rw [if_neg Bool.false_ne_true] at p2 ⊢
     obtain ⟨a1, a2, a3, a4, a5, a6⟩ := rest N24
     exact ⟨k - 1, by omega, c4, acc, us, rfl, by omega, a1, a2, a3, a4, a5, a6, p2⟩
    | true =>
     rw [if_pos rfl] at p2 ⊢
     refine ⟨c4, τ2, L0, rfl, N4.rel, s2.nxt N4, ?_⟩
     revert p2
     cases eE : me τ2 c4.h with
     | exc _ _ _ => exact fun p2 => p2.elim
     | stuck => exact fun p2 => p2.elim
     | ok y h5 =>
      intro p2 c5 u5 N5 e5 x5
      subst e5
      have p2 : Post G (RV G) c1 (fun k d H' => W k d σ H') Q (if small (acc.length + 1) then lcL g mt me (wipeA τ vs) (xs.drop (i + 1)) (acc ++ [y]) c5.h else .stuck) := p2
      by_cases hl : small (acc.length + 1) = true
      ·rw [if_pos hl] at p2
       obtain ⟨a1, a2, a3, a4, a5, a6⟩ := rest (N24.trans N5)
       refine ⟨us, a5, by rw [← a6.length]; exact Nat.lt_of_lt_of_le (Nat.lt_succ_self _) (small_le hl), k - 1, by omega, { c5 with H := upd c5.H D (.lst (us ++ [u5])) }, acc ++ [y], us ++ [u5], rfl, by omega, ?_⟩
       have zD : c5.Z D := (a3 D).mpr (.inr rfl)
       have M6 := Mv.turn (O := .lst (us ++ [u5])) zD
       exact ⟨a1.turn zD, a2.trans M6, a3, fun a z => (upd_ne fun y => nDZ (by rw [← y]; exact z)).trans (a4 a z), upd_same, (RVs.append a6 (.cons x5 .nil)).mono M6, p2⟩
      ·rw [if_neg hl] at p2; exact p2.elim
 ·have hl : xs.length ≤ i := by omega
  have hk0 : i = xs.length := by omega
  subst hk0
  refine .inl ⟨w.stops c2.H hg2, ?_⟩
  rw [List.drop_length] at p2
  have M3 : Mv c2 { c2 with Z := c1.Z } := Mv.fewer fun a z => (hZ a).mpr (.inl z)
  have r3 : Rel G { c2 with Z := c1.Z } := r2.fewer fun a z => (hZ a).mpr (.inl z)
  have N : Nxt G c1 { c2 with Z := c1.Z } := ⟨r3, M2.trans M3, rfl, hH⟩
  exact p2 { c2 with Z := c1.Z } (.ref D) N rfl (.fl (.inl hD2) ⟨(r2.zok D ((hZ D).mpr (.inr rfl))).1, nDZ⟩ (y2.mono M3))
def mLcK (j : Nat) (vs : List Nat) (g : MG) (mt : MT) (me : ME) : ME := fun τ h => match τ[j]? with
  | some (some (.ref n)) => match h[n]? with
    | some (some (.dk kvs)) => match lcL g mt me (wipeA τ vs) (kvs.map fun p => keyV p.1) [] (h.set n none) with
      | .ok v h' => .ok v (h'.set n (some (.dk kvs)))
      | _ => .stuck
    | _ => .stuck
  | _ => .stuck
theorem mLcK_ev {j : Nat} {vs : List Nat} {g : MG} {h : AH} {n : Nat} {kvs : List (Key × AV)} (e1 : τ[j]? = some (some (.ref n))) (e2 : h[n]? = some (some (.dk kvs))) : mLcK j vs g mt me τ h = match lcL g mt me (wipeA τ vs) (kvs.map fun p => keyV p.1) [] (h.set n none) with
   | .ok v h' => .ok v (h'.set n (some (.dk kvs)))
   | _ => .stuck := by
 unfold mLcK
 rw [e1]
 simp only
 rw [e2]
theorem rvd_keyn : ∀ {xs : List (Key × AV)} {us : List (Key × V)}, RVd G c xs us → ∀ i : Nat, (xs[i]?).map (·.1) = (us[i]?).map (·.1) ∧ (∀ p, xs[i]? = some p → kOk p.1 = true)
 | _, _, .nil, i => by simp
 | _, _, .cons k r x, 0 => by simp; exact k
 | _, _, .cons k r x, i + 1 => by simpa using rvd_keyn x i
theorem lcK_ok {j : Nat} {g : MG} {σ : SL} {H : Hp} {Q : VK} (vs : List Nat) (t : tI G B W (mLcK j vs g mt me) σ H Q) : tLockE (tLc (iKeys (tI G B W (mVar j))) (tGe G B vs g) (tIt G B W0 mt) (tI G B W0 me) vs) σ H Q := by
 obtain ⟨c, τ, L, rfl, rl, s, p⟩ := t
 unfold mLcK at p
 split at p
 ·rename_i n q1
  split at p
  ·rename_i kvs q2
   obtain ⟨us, q3, y⟩ := rl.obj n _ q2
   refine ⟨c.rho n, .dK us, q3, trivial, fun od => ?_⟩
   have hn : n < c.h.length := by
    rcases Nat.lt_or_ge n c.h.length with q | q
    ·exact q
    ·rw [List.getElem?_eq_none_iff.mpr q] at q2; cases q2
   have M := lkIn_mv (O := .frz od (.dK us)) q2
   have R1 := lkIn_rel (O := .frz od (.dK us)) rl q2
   have s1 : RS G B (lkIn c n (c.rho n) (.frz od (.dK us))) L τ σ := s.mono M fun a h => ⟨.inl (s.z a h), by
    have : a ≠ c.rho n := fun z => (rl.zok a (s.z a h)).1 n _ q2 z.symm
    exact upd_ne this⟩
   show iKeys (tI G B W (mVar j)) σ (lkIn c n (c.rho n) (.frz od (.dK us))).H _
   refine ⟨_, τ, L, rfl, R1, s1, ?_⟩
   have mv : mVar j τ (lkIn c n (c.rho n) (.frz od (.dK us))).h = .ok (.ref n) (lkIn c n (c.rho n) (.frz od (.dK us))).h := by
    unfold mVar
    rw [q1]
    rfl
   rw [mv]
   intro c1 u N1 e1 x1
   have hd : c1.H (c.rho n) = some (.frz od (.dK us)) := (N1.zz _ (.inr rfl)).trans upd_same
   have hr : c1.rho n = c.rho n := N1.mv.same n (by simpa [lkIn] using hn)
   cases x1 with
   | ref hn1 =>
    refine ⟨c.rho n, od, by rw [hr], .inl ⟨us, hd, ?_⟩⟩
    have yy : RVd G c1 kvs us := (y.mono M).mono N1.mv
    refine (lc_go (W := W) (J := Itk (c.rho n) od us) (Q := fun v H' => H' (c.rho n) = some (.frz od (.dK us)) ∧ Q v (upd H' (c.rho n) (.dK us))) (g := g) (me := me) (mt := mt) (σ := σ) (B := B) (L := L) (τ := τ) (xs := kvs.map fun p => keyV p.1) (c1 := c1) vs N1.rel (s1.nxt N1) ?_ ?_ : tLc (fun σ H R => R (Itk (c.rho n) od us) H) (tGe G B vs g) (tIt G B W0 mt) (tI G B W0 me) vs σ c1.H _)
    ·refine ⟨fun H => H (c.rho n) = some (.frz od (.dK us)), fun i H x H' => H' = H ∧ ∃ k v, us[i]? = some (k, v) ∧ x = kV k, ?_, fun c' _ hz => ?_, fun c' i x H'' v M2 r2 hv hy => ?_⟩
     ·have hl : us.length = kvs.length := y.length.symm
      refine ⟨fun i H hi g => ⟨g, by simpa [hl] using hi⟩, fun H g => ⟨g, by simp [hl]⟩, fun i H x H' _ _ z => z⟩
     ·show c'.H (c.rho n) = _
      rw [hz _ (by rw [N1.z]; exact .inr rfl)]
      exact hd
     ·obtain ⟨rfl, k, w, e2, rfl⟩ := hy
      refine ⟨.refl r2, ?_⟩
      obtain ⟨a1, a2⟩ := rvd_keyn yy i
      rw [e2] at a1
      rw [List.getElem?_map] at hv
      cases e3 : kvs[i]? with
      | none => rw [e3] at hv; cases hv
      | some p =>
       rw [e3] at hv a1
       simp only [Option.map_some, Option.some.injEq] at hv a1
       subst hv
       have kk := a2 p e3
       subst a1
       cases hp : p.1 with
       | inl i => exact .int
       | inr z => rw [hp] at kk; exact .str kk
    ·have e1 : c1.h = c.h.set n none := e1
     rw [e1]
     revert p
     cases q : lcL g mt me (wipeA τ vs) (kvs.map fun p => keyV p.1) [] (c.h.set n none) with
     | stuck => exact fun p => p.elim
     | exc _ _ _ => exact fun p => p.elim
     | ok v h' =>
      intro p c2 u2 N2 e2 x2
      have N12 := N1.trans N2
      obtain ⟨N3, Mx⟩ := lkOut_nxt (O' := .dK us) rl q2 N12 fun c3 M3 e3 => ⟨us, e3, y.mono M3⟩
      refine ⟨(N12.zz _ (.inr rfl)).trans upd_same, p _ _ N3 ?_ (x2.mw Mx)⟩
      show c2.h.set n _ = _
      rw [e2]
  ·exact p.elim
 ·exact p.elim
theorem ie_lcK {elt tg : Expr} {ifs : List Expr} {scope : Scope} (j : Nat) (own : List (Str × Nat)) {g : MG} (hN : X.N.Nodup) (ok : BlkOk X.N X.env.scope scope own)
  (hg : ∀ (s : Shared) (H : Hp) (C : Addr) (cl : List (Str × Addr)) (fp : List Addr), IGe G B (own.map (·.2)) (X.blk s H scope (compEnvC scope cl C X.env) fp) tg g) (ht : ∀ (s : Shared) (H : Hp) (C : Addr) (cl : List (Str × Addr)) (fp : List Addr), PTs (X.blk s H scope (compEnvC scope cl C X.env) fp) ifs (tIt G B W0 mt))
  (he : ∀ (s : Shared) (H : Hp) (C : Addr) (cl : List (Str × Addr)) (fp : List Addr), IE G B W0 (X.blk s H scope (compEnvC scope cl C X.env) fp) elt me) (hj : X.N[j]? = some x := by rfl) (hv : Vis X.env.scope x := by first | exact Or.inl rfl | exact Or.inr (Or.inl rfl) | exact Or.inr (Or.inr rfl)) (hd : (x == ("__debug__" : Str)) = false := by decide) (hcd : (x == ("__classdict__" : Str)) = false := by decide) (hc : X.calm = true := by rfl) (hs : ∀ y, foldedSetIterable (.Name x p) X.env y = pure y := by intro _; rfl) :
  IE G B W X (.ListComp elt [⟨tg, .Name x p, ifs, 0⟩] scope pos) (mLcK j (own.map (·.2)) g mt me) :=
 PE.imp (pe_lock (pe_lc hc hN (pi_keys (ie_var (W := W) (G := G) (B := B) j hj hv hd hcd)) ok hg ht he hs)) fun _ _ _ t => lcK_ok _ t
end
end PI
namespace PI
open PySem PySem.Spec PyProof.Rows L2 ClX
section
variable {G : Gx} {B : Bx} {zs : Addr → Prop} {W : WX} {X : Cx} {c c' : Cfg} {L : List Addr} {τ : AS} {σ : SL} {pos pos' p apos cpos : Pos} {e o a b : Expr} {es : List Expr} {m n mo me mi : ME} {ma mk : MA} {mt : MT} {x s : Str} {i : Nat} {vs : List Nat}
end
inductive HdsA (X : Cx) : List ExceptHandler → List (Value × Nat × (Addr → Value → Option Addr → TS)) → Prop
  | nil : HdsA X [] []
  | cons {x n : Str} {c : Value} {i : Nat} {ts : Addr → Value → Option Addr → TS} {b₀ : Stmt} {suite : List Stmt} {np pos' : Pos} {hds : List ExceptHandler} {l : List (Value × Nat × (Addr → Value → Option Addr → TS))} (hc : Names X x c) (hi : X.N[i]? = some n) (hln : X.env.kindOf n = some .local)
      (hsu : ∀ (a : Addr) (oe : Obj) (cls : Value) (d : Option Addr) (pn : List (Addr × Obj)), Zc cls d oe → (∃ vs, oe.data = .fields vs) → PSs (X.suite a ((a, oe) :: pn)) (b₀ :: suite) (ts a cls d)) (r : HdsA X hds l) :
      HdsA X (.ExceptHandler (some (.Name x np)) (some n) (b₀ :: suite) pos' :: hds) ((c, i, ts) :: l)
section
variable {X : Cx} {body : List Stmt} {h₀ : ExceptHandler} {hds : List ExceptHandler} {l : List (Value × Nat × (Addr → Value → Option Addr → TS))} {pos : Pos} {tb : WX → TS} {Wout : WX}
end
section
variable {G : Gx} {B : Bx} {zs : Addr → Prop} {W : WX} {X : Cx} {c c' : Cfg} {L : List Addr} {τ : AS} {σ : SL} {pos pos1 pos2 np1 np2 : Pos} {mb ms ms1 ms2 : MS} {mt mt1 mt2 : XC → Option Bool} {cv cv1 cv2 : Value} {n1 n2 x1 x2 : Str} {b1 b2 : Stmt} {body su1 su2 : List Stmt}
end
section
variable {G : Gx} {B : Bx} {zs : Addr → Prop} {W : WX} {X : Cx} {c c' : Cfg} {L : List Addr} {τ : AS} {σ : SL} {pos pos' p apos cpos p1 p2 p3 : Pos} {e o f a b : Expr} {es : List Expr} {m n mo mi mx : ME} {ma mk : MA} {mt : MT} {x s : Str} {i : Nat}
theorem RVs.reverse {xs : List AV} {us : List V} (h : RVs G c xs us) : RVs G c xs.reverse us.reverse := by
 have : ∀ (xs : List AV) (us : List V), RVs G c xs us → ∀ (acc : List AV) (au : List V), RVs G c acc au → RVs G c (xs.reverse ++ acc) (us.reverse ++ au) := by
  intro xs
  induction xs with
  | nil => intro us h acc au k; cases h; simpa using k
  | cons x xs ih =>
   intro us h acc au k
   cases h with
   | cons r t =>
    have := ih _ t (x :: acc) (_ :: au) (.cons r k)
    simpa using this
 simpa using this xs us h [] [] .nil
def fDPop3 (v k : AV) : AV → AH → Res AV := fun z h => match v with
  | .ref n => match h[n]? with
    | some (some (.dk xs)) => match keyA k with
      | some kk => match valA xs kk with
        | some w => .ok w (h.set n (some (.dk (dropA xs kk))))
        | none => .ok z h
      | none => .stuck
    | _ => .stuck
  | _ => .stuck
def fDPop2 (v : AV) (mx : ME) (τ : AS) : AV → AH → Res AV := fun k h => (mx τ h).bind (fDPop3 v k)
def fDPop1 (mi mx : ME) (τ : AS) : AV → AH → Res AV := fun v h => if (dctA v h).isSome then (mi τ h).bind (fDPop2 v mx τ) else .stuck
def mDPop (mo mi mx : ME) : ME := fun τ h => (mo τ h).bind (fDPop1 mi mx τ)
@[simp] theorem mDPop_ev {h : AH} : mDPop mo mi mx τ h = (mo τ h).bind (fDPop1 mi mx τ) := rfl
@[simp] theorem fDPop1_ev {v : AV} {h : AH} : fDPop1 mi mx τ v h = if (dctA v h).isSome then (mi τ h).bind (fDPop2 v mx τ) else .stuck := rfl
@[simp] theorem fDPop2_ev {v k : AV} {h : AH} : fDPop2 v mx τ k h = (mx τ h).bind (fDPop3 v k) := rfl
@[simp] theorem fDPop3_ev {n : Nat} {k z : AV} {h : AH} : fDPop3 (.ref n) k z h = match h[n]? with
    | some (some (.dk xs)) => match keyA k with
      | some kk => match valA xs kk with
        | some w => .ok w (h.set n (some (.dk (dropA xs kk))))
        | none => .ok z h
      | none => .stuck
    | _ => .stuck := rfl
theorem ie_dpop (ho : IE G B W X o mo) (hi : IE G B W X e mi) (hx : IE G B W X f mx) (M : M2 X o "pop" apos e f cpos := by exact ⟨by rfl, by rfl, by rfl, by rfl⟩) : IE G B W X (.Call (.Attribute o "pop" apos) [e, f] [] cpos) (mDPop mo mi mx) := PE.imp (pe_dpop2 ho hi hx M) fun σ H Q ⟨c, τ, L, eH, rl, s, p⟩ => by
  refine ⟨c, τ, L, eH, rl, s, (Post.bind (R := RV G) p).imp fun u H1 ⟨c1, v, e1, N1, x1, p1⟩ => ?_⟩
  subst e1
  unfold fDPop1 at p1
  by_cases hd : (dctA v c1.h).isSome = true
  · rw [if_pos hd] at p1
    obtain ⟨kvs, hk⟩ := Option.isSome_iff_exists.mp hd
    obtain ⟨a, us, rfl, q1, y1⟩ := dct_rv N1.rel x1 hk
    refine ⟨a, rfl, .inl ⟨us, q1⟩, c1, τ, L, rfl, N1.rel, s.nxt N1, (Post.bind (R := RV G) p1).imp fun u2 H2 ⟨c2, k, e2, N2, x2, p2⟩ => ?_⟩
    refine ⟨c2, τ, L, e2.symm, N2.rel, (s.nxt N1).nxt N2, (Post.bind (R := RV G) p2).imp fun u3 H3 ⟨c3, z, e3, N3, x3, p3⟩ => ?_⟩
    subst e3
    have x1' := (x1.mono N2.mv).mono N3.mv
    have x2' := x2.mono N3.mv
    unfold fDPop3 at p3
    cases x1' with
    | @ref n hn =>
      simp only at p3
      split at p3
      · rename_i xs q
        split at p3
        · rename_i kk q4
          obtain ⟨us3, q5, y⟩ := N3.rel.obj n _ q
          obtain ⟨ek, hkk⟩ := key_rv x2' q4
          have hv := y.val kk
          subst ek
          refine ⟨us3, kk, q5, rfl, fun w hw => ?_, fun hw => ?_⟩
          · cases q6 : valA xs kk with
            | none => rw [q6] at hv; simp only at hv; rw [hv] at hw; cases hw
            | some w0 =>
              rw [q6] at hv p3
              simp only at hv p3
              obtain ⟨u0, h0, r0⟩ := hv
              rw [hw] at h0
              cases h0
              have N4 := Nxt.write (o' := .dk (dropA xs kk)) (O := .dK (dropK us3 kk)) N3.rel q fun c4 M e4 => ⟨_, e4, y.drop.mono M⟩
              exact p3 _ _ N4 rfl (r0.mono N4.mv)
          · cases q6 : valA xs kk with
            | some w0 =>
              rw [q6] at hv
              simp only at hv
              obtain ⟨u0, h0, _⟩ := hv
              rw [hw] at h0
              cases h0
            | none =>
              rw [q6] at p3
              simp only at p3
              exact p3 c3 _ (.refl N3.rel) rfl x3
        · exact p3.elim
      · exact p3.elim
    | _ => exact p3.elim
  · rw [if_neg hd] at p1; exact p1.elim
end
section
variable {G : Gx} {X : Cx} {c : Cfg} {pins : List (Addr × Obj)} {σ : SL} {s : Shared} {A : Around}
end
def eStr (e : Int × Value) : Str := match e.2 with
 | .str z _ => z
 | _ => Str.empty
def StrE (w : World) (e : Int × Value) : Prop := ∃ z t, e.2 = Value.str z t ∧ e.1 = hashStr w z
def TSet (w : World) (h : Heap) (a : Addr) (ks : List Str) (n : Nat) : Prop :=
 ∃ o es ep t, (h.get? a = some o ∧ o.ExactSet ∧ o.data = .set es ep t) ∧ ((∀ e ∈ es.toList, StrE w e) ∧ (es.toList.map eStr).Nodup ∧ ∀ z, z ∈ es.toList.map eStr ↔ z ∈ ks) ∧
  (es.size < scanBound ∧ t.fits es.size = true ∧ es.size = n) ∧ Ris t.place.toList ∧ (w.params.followText "set-order" = true ∨ t.led = true)
section
variable {P : Program} {w : World} {h h' : Heap} {a : Addr} {ks : List Str} {n : Nat}
theorem TSet.at (T : TSet w h a ks n) (k : ∀ o, h.get? a = some o → h'.get? a = some o) : TSet w h' a ks n := by
 obtain ⟨o, es, ep, t, ⟨h1, h2⟩, h3⟩ := T
 exact ⟨o, es, ep, t, ⟨k o h1, h2⟩, h3⟩
theorem TSet.like {ks' : List Str} (T : TSet w h a ks n) (k : ∀ z, z ∈ ks ↔ z ∈ ks') : TSet w h a ks' n := by
 obtain ⟨o, es, ep, t, h1, ⟨h2, h3, h4⟩, h5⟩ := T
 exact ⟨o, es, ep, t, h1, ⟨h2, h3, fun z => (h4 z).trans (k z)⟩, h5⟩
theorem strE_elems {l : List (Int × Value)} (g : ∀ e ∈ l, StrE w e) : ElemsOf (strKind P w) l := fun e he => by
 obtain ⟨z, t, e1, e2⟩ := g e he
 refine ⟨⟨z, ?_, e2⟩, ?_⟩ <;> rw [e1]
 ·show ((z == z) = true)
  exact beq_self_eq_true z
 ·rfl
theorem strE_is {e : Int × Value} (g : StrE w e) (z : Str) : (strKind P w).is z e.2 = true ↔ eStr e = z := by
 obtain ⟨y, t, e1, _⟩ := g
 unfold eStr
 rw [e1]
 show ((y == z) = true) ↔ y = z
 exact beq_iff_eq
theorem strE_mem {l : List (Int × Value)} (g : ∀ e ∈ l, StrE w e) (z : Str) : z ∈ l.map eStr ↔ ∃ e ∈ l, (strKind P w).is z e.2 = true := by
 simp only [List.mem_map]
 exact ⟨fun ⟨e, he, q⟩ => ⟨e, he, (strE_is (g e he) z).mpr q⟩, fun ⟨e, he, q⟩ => ⟨e, he, (strE_is (g e he) z).mp q⟩⟩
theorem tset_new (ho : h.get? a = some { cls := .type "set", dict := none, data := .set #[] 0 (.fresh 0 0 (!w.params.followText "set-order")) }) : TSet w h a [] 0 := by
 refine ⟨_, #[], 0, _, ⟨ho, ⟨rfl, rfl, rfl⟩, rfl⟩, ⟨fun e he => by simp at he, by simp, fun z => by simp⟩, ⟨by decide, by rfl, rfl⟩, .nil, ?_⟩
 show _ ∨ (!w.params.followText "set-order") = true
 cases w.params.followText "set-order" <;> simp
end
section
variable {P : Program} {w : World} {A : Around} {E : Value → Shared → Prop} {s : Shared} {a : Addr} {ks : List Str} {n : Nat}
theorem tset_tail {g : Bool → Sem Unit} (hg : ∀ (k : Bool) (s1 : Shared) (Q1 : Unit → Shared → Prop), Q1 () s1 → wpAny (model P w) A (g k) Q1 E s1)
  {o : Obj} {es es1 : Array (Int × Value)} {ep : Nat} {t t2 : SetTable} (hat : s.heap.get? a = some o ∧ o.ExactSet ∧ o.data = .set es ep t)
  (hm : (∀ e ∈ es1.toList, StrE w e) ∧ (es1.toList.map eStr).Nodup ∧ ∀ z, z ∈ es1.toList.map eStr ↔ z ∈ ks) (hsz : es1.size < scanBound ∧ t2.fits es1.size = true ∧ es1.size = n)
  (hri : Ris t2.place.toList) (hld : w.params.followText "set-order" = true ∨ t2.led = true) {wd : Bool} {R : Option Bool → Shared → Prop}
  (hR : ∀ h', Heap.SameBut a s.heap h' → TSet w h' a ks n → R (some true) { s with heap := h' }) :
  wpAny (model P w) A (do
    storeSet a es1 t2
    if (!wd && t2.tooFull) = true then do
      g (relayAll t2 es1 (SetTable.grown es1.size)).2.2
      storeSet a (relayAll t2 es1 (SetTable.grown es1.size)).1 (relayAll t2 es1 (SetTable.grown es1.size)).2.1
      pure (some true)
     else pure (some true)) R E s := by
 obtain ⟨ho, hex, hd⟩ := hat
 obtain ⟨m1, m2, m3⟩ := hm
 obtain ⟨z1, z2, z3⟩ := hsz
 refine wpAny_bind (wpAny_storeSet_of ho hd ?_ (fits_of_scanBound z1))
 have ho1 := store_at (es' := es1) (t' := t2) ho hd
 have sb1 := Heap.SameBut.update s.heap a (Obj.putSet es1 t2)
 split
 ·have pm := relayAll_perm t2 es1 (SetTable.grown es1.size)
  have f3 := relayAll_fits t2 es1 (SetTable.grown es1.size)
  have r3 := relayAll_ris t2 es1 (SetTable.grown es1.size)
  have l3 := relayAll_led t2 es1 (SetTable.grown es1.size)
  generalize relayAll t2 es1 (SetTable.grown es1.size) = Z at pm f3 r3 l3 ⊢
  obtain ⟨es2, t3, gave⟩ := Z
  dsimp only at pm f3 r3 l3 ⊢
  have e2 : es2.size = es1.size := by rw [← Array.length_toList, pm.length_eq, Array.length_toList]
  have z4 : es2.size < scanBound := e2 ▸ z1
  refine wpAny_bind (hg _ _ _ (wpAny_bind (wpAny_storeSet_of ho1 rfl ?_ (fits_of_scanBound z4))))
  have ho2 := store_at (es' := es2) (t' := t3) ho1 rfl
  exact wpAny_pure (hR _ (sb1.trans (Heap.SameBut.update _ a _)) ⟨_, es2, _, t3, ⟨ho2, hex, rfl⟩, ⟨fun e he => m1 e (pm.mem_iff.mp he), (pm.map eStr).nodup_iff.mpr m2, fun z => (pm.map eStr).mem_iff.trans (m3 z)⟩,
   ⟨z4, f3, e2.trans z3⟩, r3, hld.imp id fun z => l3.trans z⟩)
 ·exact wpAny_pure (hR _ sb1 ⟨_, es1, _, t2, ⟨ho1, hex, rfl⟩, ⟨m1, m2, m3⟩, ⟨z1, z2, z3⟩, hri, hld⟩)
theorem tset_add {z : Str} {tk : Tok} {Q : Bool → Shared → Prop} (T : TSet w s.heap a ks n) (room : n + 1 < scanBound)
  (hQ : ∀ h' n' k, Heap.SameBut a s.heap h' → n' ≤ n + 1 → TSet w h' a (ks ++ [z]) n' → Q k { s with heap := h' }) :
  wpAny (model P w) A (setAddHashed a (.str z tk) ((strKind P w).hash z)) Q E s := by
 obtain ⟨o, es, ep, t, ⟨ho, hex, hd⟩, ⟨g, nd, hm⟩, ⟨hb, hf, hn⟩, hr, hl⟩ := id T
 have hkey : (strKind P w).is z (.str z tk) = true := beq_self_eq_true z
 have hsc : (Value.str z tk).scannable = true := rfl
 have hel : ElemsOf (strKind P w) es.toList := strE_elems g
 unfold setAddHashed setAddHashedIn
 refine wpAny_holding (wpAny_bind (wpAny_setState_of ho hd hf ?_))
 dsimp only
 rw [byScan_of hsc hb hel]
 simp only [↓reduceIte]
 unfold setAddByScan
 refine wpAny_bind (wpAny_bind (wpAny_rule (wpAny_bind (wpAny_setScan_of hkey ho hd hf hel ?_))))
 cases hfi : List.findIdx? (fun e => (strKind P w).is z e.2) es.toList with
 | some j =>
  dsimp only
  obtain ⟨hj, pj, _⟩ := List.findIdx?_eq_some_iff_getElem.mp hfi
  have hz : z ∈ ks := (hm z).mp ((strE_mem (P := P) (w := w) g z).mpr ⟨es.toList[j], List.getElem_mem hj, pj⟩)
  exact wpAny_pure (wpAny_pure (hQ s.heap n _ (Heap.SameBut.refl a s.heap) (Nat.le_succ n) (T.like fun y => by
   rw [List.mem_append, List.mem_singleton]
   exact ⟨.inl, fun q => q.elim id fun e => e ▸ hz⟩)))
 | none =>
  dsimp only
  have hnk : z ∉ es.toList.map eStr := fun q => by
   obtain ⟨e, he, q⟩ := (strE_mem (P := P) (w := w) g z).mp q
   exact absurd q (by rw [List.findIdx?_eq_none_iff.mp hfi e he]; exact Bool.false_ne_true)
  have hgw : ∀ (k : Bool) {s1 : Shared} {Q1 : Unit → Shared → Prop}, Q1 () s1 → wpAny (model P w) A (match k with | true => rule "set.scan.the-table-gave-way" | false => pure ()) Q1 E s1 :=
   fun k s1 Q1 q => by cases k <;> first | exact wpAny_pure q | exact wpAny_rule q
  have pm := layNew_perm t es ((strKind P w).hash z) (.str z tk)
  have f1 := layNew_fits t es ((strKind P w).hash z) (.str z tk)
  have r1 := layNew_ris t es ((strKind P w).hash z) (.str z tk) hr
  have l1 := layNew_led t es ((strKind P w).hash z) (.str z tk)
  generalize layNew t es ((strKind P w).hash z) (.str z tk) = Z at pm f1 r1 l1 ⊢
  obtain ⟨es1, t1, wd, gave⟩ := Z
  dsimp only at pm f1 r1 l1 ⊢
  rw [Array.toList_push] at pm
  have pc : es1.toList.Perm (((strKind P w).hash z, Value.str z tk) :: es.toList) := pm.trans (List.perm_append_singleton _ _)
  have pk : (es1.toList.map eStr).Perm (z :: es.toList.map eStr) := pc.map eStr
  have k1 : ∀ e ∈ es1.toList, StrE w e := fun e he => by
   rcases List.mem_cons.mp (pc.mem_iff.mp he) with q | q
   ·exact q ▸ ⟨z, tk, rfl, rfl⟩
   ·exact g e q
  have k2 : (es1.toList.map eStr).Nodup := pk.nodup_iff.mpr (List.nodup_cons.mpr ⟨hnk, nd⟩)
  have k3 : ∀ y, y ∈ es1.toList.map eStr ↔ y ∈ ks ++ [z] := fun y => by
   rw [pk.mem_iff, List.mem_cons, hm y, List.mem_append, List.mem_singleton]
   exact Or.comm
  have k4 : es1.size = n + 1 := by rw [← Array.length_toList, pc.length_eq, List.length_cons, Array.length_toList, hn]
  have k5 : es1.size < scanBound := k4 ▸ room
  have k6 : w.params.followText "set-order" = true ∨ t1.led = true := hl.imp id fun q => l1.trans q
  have fin : ∀ k h', Heap.SameBut a s.heap h' → TSet w h' a (ks ++ [z]) (n + 1) → Q k { s with heap := h' } := fun k h' sb q => hQ h' _ k sb (Nat.le_refl _) q
  refine wpAny_bind (hgw _ ?_)
  split
  ·refine wpAny_bind ?_
   rw [hashByValue_scannable 8 hsc]
   refine wpAny_pure ?_
   refine tset_tail (ks := ks ++ [z]) (n := n + 1) ?_ ⟨ho, hex, hd⟩ ⟨k1, k2, k3⟩ ⟨k5, ?_, k4⟩ ?_ ?_ ?_
   ·intro k s1 Q1 q; cases k <;> first | exact wpAny_pure q | exact wpAny_rule q
   ·first | (split <;> first | exact f1 | exact SetTable.fits_plain_off f1) | exact f1
   ·first | (split <;> exact r1) | exact r1
   ·first | (split <;> exact k6) | exact k6
   ·intro h' sb q; dsimp only; exact wpAny_pure (fin _ h' sb q)
  ·refine wpAny_bind (wpAny_pure ?_)
   simp only [↓reduceIte]
   refine tset_tail (ks := ks ++ [z]) (n := n + 1) ?_ ⟨ho, hex, hd⟩ ⟨k1, k2, k3⟩ ⟨k5, f1, k4⟩ r1 k6 ?_
   ·intro k s1 Q1 q; cases k <;> first | exact wpAny_pure q | exact wpAny_rule q
   ·intro h' sb q; dsimp only; exact wpAny_pure (fin _ h' sb q)
theorem tset_loop {I : Addr} {fp wr : List Addr} {Gs : Array GenState → Array GenState → Prop} {Pv : Nat → Value → Prop} {St : Nat → Shared → Prop} {R : Result → Shared → Prop} (zs : List Str)
  (W : WalksS P w A.in1 I fp wr Gs zs.length Pv St) (S : Addr) (hS : S ∉ fp) (hb : zs.length + 1 < scanBound) (hv : ∀ i v, Pv i v → ∃ z t, zs[i]? = some z ∧ v = .str z t) :
  ∀ (k i : Nat) (s : Shared), zs.length - i = k → i ≤ zs.length → St i s → (∃ m, m ≤ i ∧ TSet w s.heap S (zs.take i) m) →
   (∀ s' m, Moved (S :: wr) Gs s s' → m ≤ zs.length → TSet w s'.heap S zs m → R (.ok (.ret .none)) s') →
   codeAny (model P w) A (.builtin "set.update.loop" ⟨[.ref S, .ref I], []⟩) R s := by
 have hSw : S ∉ wr := fun q => hS (W.sub _ q)
 have inc : ∀ b ∈ wr, b ∈ S :: wr := fun b => List.mem_cons_of_mem _
 intro k
 induction k with
 | zero =>
  intro i s hk hi hst ⟨m, hm, hT⟩ hR
  have ei : i = zs.length := Nat.le_antisymm hi (Nat.sub_eq_zero_iff_le.mp hk)
  refine codeAny_builtin F.entry_set_update_loop ?_
  rw [Around.under_plainId F.plain_set_update_loop _]
  show wpAny _ A.in1 (pyNext (.ref I) >>= _) _ _ s
  refine wpAny_bind (W.done s _ _ (ei ▸ hst) fun s' mv => ?_)
  show wpAny _ A.in1 (ret Value.none) _ _ s'
  rw [List.take_of_length_le (Nat.le_of_eq ei.symm)] at hT
  exact wpAny_pure (hR s' m (mv.mono inc) (ei ▸ hm) (hT.at fun o e => mv.heap S o hSw e))
 | succ k ih =>
  intro i s hk hi hst ⟨m, hm, hT⟩ hR
  have hlt : i < zs.length := by omega
  refine codeAny_builtin F.entry_set_update_loop ?_
  rw [Around.under_plainId F.plain_set_update_loop _]
  show wpAny _ A.in1 (pyNext (.ref I) >>= _) _ _ s
  refine wpAny_bind (W.item i s _ _ hlt hst fun v s' hP hst' mv => ?_)
  obtain ⟨z, t, hz, rfl⟩ := hv i v hP
  have hT' : TSet w s'.heap S (zs.take i) m := hT.at fun o e => mv.heap S o hSw e
  show wpAny _ A.in1 (holding [Value.str z t] (setAdd S (.str z t)) >>= _) _ _ s'
  refine wpAny_bind (wpAny_holding ?_)
  unfold setAdd
  refine wpAny_holding (wpAny_bind ((strKind P w).pyHash (k := z) (beq_self_eq_true z) ?_))
  refine tset_add (s := { s' with toks := s'.toks + 1 }) hT' (by omega) fun h' n' kk sb hn' hT2 => ?_
  have hT3 : TSet w h' S (zs.take (i + 1)) n' := by rw [List.take_add_one, hz]; exact hT2
  refine wpAny_pure ⟨plainId_quiet F.plain_set_update_loop _, ih (i + 1) _ (by omega) hlt (W.frame _ s' _ _ hst' (Nat.le_succ _) fun b hb o e => ?_) ⟨_, by omega, hT3⟩ fun s2 m2 mv2 hm2 hT4 => ?_⟩
  ·rw [sb.2 b (fun q : b = S => hS (q ▸ hb))]; exact e
  ·refine hR s2 m2 (Moved.trans W.gtrans ((mv.mono inc).then_heap (Nat.le_succ _) fun b o hb e => ?_) mv2) hm2 hT4
   rw [sb.2 b (fun q : b = S => hb (q ▸ List.mem_cons_self))]; exact e
abbrev ob0 (w : World) : Obj := { cls := .type "set", dict := none, data := .set #[] 0 (.fresh 0 0 (!w.params.followText "set-order")) }
set_option maxHeartbeats 16000000 in
theorem tset_call {l : Addr} {items : Array Value} (zs : List Str) {Q : Value → Shared → Prop} (hh : A.handled = none) (hl : s.heap.IsList l items) (hi : StrsAre items.toList zs) (hb : zs.length + 1 < scanBound)
  (h : ∀ (h' : Heap) (tk m : Nat), TSet w h' s.heap.objs.size zs m → m ≤ zs.length → (∀ b o, s.heap.get? b = some o → h'.get? b = some o) → Q (.ref s.heap.objs.size) { s with heap := h', toks := tk }) :
  wpAny (model P w) A (call (.type "set") [.ref l]) Q E s := by
 have isz : items.size = zs.length := by
  have q := hi.length
  rw [Array.length_toList] at q
  exact q
 obtain ⟨c, tl, hmro⟩ := F.called_set.mro
 have hmade := F.called_set.made
 have hsub := F.called_set.sub
 refine wpAny_call (codeAny_of_tree ?_)
 show wpAny _ _ (callAny (.type "set") _) _ _ _
 refine wpAny_pure ⟨Code.quiet_builtin _ (by decide +kernel), codeAny_builtin F.entry_type_call ?_⟩
 rw [Around.under_plain (weight_type_call_type "set" [.ref l] []) rfl]
 have h1 := F.called_set.notType
 have h2 := F.called_set.canCreate
 have hct := F.typeCall_set_1 (.ref l)
 repeat (any_goals (first | assumption | wp_step))
 refine codeAny_mono (code_set_led1 (.ref l) (E := E) (Q₁ := fun u s1 => u = .ref s.heap.objs.size ∧ s1 = { s with heap := s.heap.push (ob0 w) }) ⟨rfl, rfl⟩) fun r s1 hr => ?_
 cases r with
 | error e => exact hr
 | ok fl =>
  cases fl with
  | ret u =>
   obtain ⟨rfl, rfl⟩ := hr
   have hS : (s.heap.push (ob0 w)).get? s.heap.objs.size = some (ob0 w) := Heap.get?_push_size _ rfl
   have hT : Shared.TypeIs { s with heap := s.heap.push (ob0 w) } (.ref s.heap.objs.size) "set" := ⟨_, hS, rfl⟩
   have hli := F.called_set.init.lookup
   have hbi := F.called_set.init.bind (.ref s.heap.objs.size)
   repeat (any_goals (first | assumption | wp_step))
   refine codeAny_mono (codeAny_call_builtin (R := wants (fun r s2 => r = .none ∧ ∃ h' tk m, s2 = { s with heap := h', toks := tk } ∧ TSet w h' s.heap.objs.size zs m ∧ m ≤ zs.length ∧
     ∀ b o, s.heap.get? b = some o → h'.get? b = some o) E) F.called_set.init.plain F.entry_set_init (check_set_init_1 hT ?_)) fun r2 s2 hr2 => ?_
   ·obtain ⟨ol, hol, hcl, nl, hdl⟩ := hl
    obtain ⟨ocls, odict, odata, oslots⟩ := ol
    simp only at hcl hdl
    subst hcl
    subst hdl
    have hol1 : (s.heap.push (ob0 w)).get? l = some { cls := .type "list", dict := odict, data := .seq items nl, slots := oslots } := Heap.get?_push_of_some _ hol
    have hsls := F.sub_list_set
    have hslf := F.sub_list_frozenset
    have hne : (Value.type "list" == Value.type "dict") = false := by decide
    have hl1 : (s.heap.push (ob0 w)).IsList l items := ⟨_, hol1, rfl, nl, rfl⟩
    unfold Builtin.«set.__init__» noKeywords Builtin.Frozenset.updateFrom
    generalize hPI : pyIter = PI
    wp_walk
    subst hPI
    refine wpAny_pyIter_list hl1 (wpAny_bind (wpAny_runValue ?_))
    have hlS : l < s.heap.objs.size := Heap.lt_size hol
    have hh3 : A.in1.in1.in1.handled = none := by simp [hh]
    have hz1 : (s.heap.push (ob0 w)).objs.size = s.heap.objs.size + 1 := Heap.size_push ..
    have hneI : l ≠ (s.heap.push (ob0 w)).objs.size := by rw [hz1]; exact Nat.ne_of_lt (Nat.lt_succ_of_lt hlS)
    have hSf : s.heap.objs.size ∉ [(s.heap.push (ob0 w)).objs.size, l] := by
     rw [hz1]
     simp only [List.mem_cons, List.mem_singleton, List.not_mem_nil, or_false, not_or]
     exact ⟨Nat.ne_of_lt (Nat.lt_succ_self _), Nat.ne_of_gt hlS⟩
    have hval : ∀ (i : Nat) (v : Value), items[i]? = some v → ∃ z t, zs[i]? = some z ∧ v = .str z t := fun i v hv => by
     have q : i < zs.length := by rw [← isz]; exact (Array.getElem?_eq_some_iff.mp hv).1
     obtain ⟨t, e⟩ := hi.at (List.getElem?_eq_getElem q)
     rw [Array.getElem?_toList, hv] at e
     exact ⟨zs[i], t, List.getElem?_eq_getElem q, Option.some.inj e⟩
    have W := (Walks.list hh3 (prog := P) (w := w) _ l hneI items).toS
    rw [isz] at W
    refine tset_loop zs W s.heap.objs.size hSf hb hval (zs.length - 0) 0 _ (by omega) (Nat.zero_le _) ⟨⟨_, Heap.get?_push_size _ rfl, rfl, rfl⟩, (hl1.push _)⟩ ?hS0 ?hR
    case hS0 => exact ⟨0, Nat.le_refl 0, tset_new (Heap.get?_push_of_some _ hS)⟩
    case hR =>
     intro s' m hm hm2 hT2
     obtain ⟨h', g2, d2, tk, os2⟩ := s'
     have eg : g2 = s.gens := hm.gens
     have ed : d2 = s.drawn := hm.drawn
     have eo : os2 = s.os := hm.os
     subst eg
     subst ed
     subst eo
     show wpAny _ _ _ _ _ _
     refine wpAny_pure ?_
     show wpAny _ _ (ret Value.none) _ _ _
     refine wpAny_pure ⟨rfl, h', tk, m, rfl, hT2, hm2, fun b o e => ?_⟩
     have hb0 : b < s.heap.objs.size := Heap.lt_size e
     refine hm.heap b o ?_ (Heap.get?_push_of_some _ (Heap.get?_push_of_some _ e))
     rw [hz1]
     simp only [List.mem_cons, List.mem_singleton, List.not_mem_nil, or_false, not_or]
     exact ⟨Nat.ne_of_lt hb0, Nat.ne_of_lt (Nat.lt_succ_of_lt hb0)⟩
   ·cases r2 with
    | error e => exact hr2
    | ok fl2 =>
     cases fl2 with
     | ret r =>
      obtain ⟨rfl, h', tk, m, rfl, hT2, hm, hk⟩ := hr2
      repeat (any_goals (first | assumption | wp_step))
      exact h _ _ _ hT2 hm hk
     | _ => exact hr2.elim
  | _ => exact hr.elim
end
section
variable {G : Gx} {B : Bx} {W : WX} {X : Cx} {c c' : Cfg}
end
def seqV (v : AV) (h : AH) : Option (List AV) := match v with
 | .tup xs => some xs
 | _ => lstOf v h
def srcQ (v : AV) : Src := fun i h => (seqV v h).map fun xs => xs[i]?
def fSrcQ : AV → AH → Res Src := fun v h => if (seqV v h).isSome then .ok (srcQ v) h else .stuck
def mSrcQ (m : ME) : MI := fun τ h => (m τ h).bind fSrcQ
section
variable {τ : AS} {h : AH} {m : ME} {v : AV}
@[simp] theorem mSrcQ_ev : mSrcQ m τ h = (m τ h).bind fSrcQ := rfl
@[simp] theorem fSrcQ_ev : fSrcQ v h = if (seqV v h).isSome then .ok (srcQ v) h else .stuck := rfl
@[simp] theorem seqV_tup {xs : List AV} : seqV (.tup xs) h = some xs := rfl
@[simp] theorem seqV_ref {n : Nat} : seqV (.ref n) h = lstOf (.ref n) h := rfl
@[simp] theorem seqV_fl {xs : List AV} : seqV (.fl xs) h = some xs := rfl
end
section
variable {G : Gx} {B : Bx} {W : WX} {X : Cx} {c c' : Cfg} {tg e : Expr} {m : ME}
def iSeq (K : PySem.W.Frag) (tl : TE) : TI := fun σ H R => tl σ H fun x H1 => ∃ a, x = .ref a ∧ (((∃ xs, SqL K H1 a xs) ∧ R (Itl K a) H1) ∨ ((∃ xs, SqT K H1 a xs) ∧ R (Itt K a) H1))
theorem pi_seqA {l : Expr} {tl : TE} (hl : PE X l tl) : PI X tg l (iSeq X.K tl) := by
 refine ⟨fun pins s σ H R I h => thn (hl.run pins s σ H _ I h) fun v s1 ⟨x, H1, I1, r1, q1⟩ => ?_⟩
 obtain ⟨a, rfl, q⟩ := q1
 cases r1
 have fresh : ∀ b ∈ [s1.heap.objs.size], FpOk X pins H1 b := fun b hb => by
  rw [List.mem_singleton.mp hb]
  exact I1.fpOk (Nat.le_refl _) (I1.hok.fresh (Nat.le_refl _))
 rcases q with ⟨⟨xs, hq⟩, q⟩ | ⟨⟨xs, hq⟩, q⟩
 ·obtain ⟨its, rv, p, hz⟩ := I1.list hq
  exact wpAny_pyIter_list p.isList ⟨s1.heap.objs.size, [s1.heap.objs.size], _, _, H1, rfl, I1.kept (t' := s1.toks) fun b o e => Heap.get?_push_of_some _ e, turn_list a _, ⟨_, Heap.get?_push_size _ rfl, rfl, rfl⟩, fresh, q⟩
 ·obtain ⟨its, rv, p, hz⟩ := I1.tuple hq
  exact wpAny_pyIter_tuple (show s1.heap.IsTuple a its.toArray from p) ⟨s1.heap.objs.size, [s1.heap.objs.size], _, _, H1, rfl, I1.kept (t' := s1.toks) fun b o e => Heap.get?_push_of_some _ e, turn_tuple a _, ⟨_, Heap.get?_push_size _ rfl, rfl, rfl⟩, fresh, q⟩
theorem goesD_tup (hK : X.K = G.K) {xs : List AV} {a : Addr} (x : RV G c (.tup xs) (.ref a)) : GoesD G c (Itt X.K a) (srcQ (.tup xs)) := by
 have key : ∀ (c' : Cfg), Mv c c' → ∃ us, SqT X.K c'.H a us ∧ RVs G c' xs us := fun c' M => by
  obtain ⟨b, us, eb, q, y⟩ := rv_tup hK (x.mono M)
  cases eb
  exact ⟨us, q, y⟩
 refine ⟨fun c' i w M r e => ?_, fun c' i M r e => ?_⟩
 ·have e' : xs[i]? = some w := Option.some.inj e
  obtain ⟨us, q1, y⟩ := key c' M
  obtain ⟨u, hu, ru⟩ := y.nth e'
  refine ⟨⟨us, u, q1, hu⟩, fun z H'' hy => ?_⟩
  obtain ⟨rfl, hz⟩ := hy
  have := hz us q1
  rw [hu] at this
  cases this
  exact ⟨.refl r, ru⟩
 ·have e' : xs[i]? = none := Option.some.inj e
  obtain ⟨us, q1, y⟩ := key c' M
  rw [List.getElem?_eq_none_iff] at e'
  exact ⟨us, q1, by rw [← y.length]; exact e'⟩
theorem iiD_seq (hK : X.K = G.K) (he : IE G B W X e m) : IID G B W X tg e (mSrcQ m) := PI.imp (pi_seqA he) fun σ H R ⟨c, τ, L, eH, r, s, q⟩ => by
 refine ⟨c, τ, L, eH, r, s, (Post.bind (R := RV G) q).imp fun u H1 ⟨c1, v, e1, N1, x1, p1⟩ => ?_⟩
 subst e1
 unfold fSrcQ at p1
 cases v with
 | tup xs =>
  obtain ⟨a, us, rfl, q1, y⟩ := rv_tup hK x1
  exact ⟨a, rfl, .inr ⟨⟨us, q1⟩, p1 c1 _ (.refl N1.rel) rfl (goesD_tup hK x1)⟩⟩
 | fl xs =>
  have hv : (lstOf (.fl xs) c1.h).isSome = true := rfl
  obtain ⟨a, us, rfl, q1, y⟩ := lst_rv hK N1.rel x1 (show lstOf (.fl xs) c1.h = some xs from rfl)
  exact ⟨a, rfl, .inl ⟨⟨us, q1⟩, p1 c1 _ (.refl N1.rel) rfl (goesD_list hK x1 hv)⟩⟩
 | ref n =>
  by_cases hv : (lstOf (.ref n) c1.h).isSome = true
  ·rw [if_pos (show (seqV (.ref n) c1.h).isSome = true from hv)] at p1
   obtain ⟨xs, hx⟩ := Option.isSome_iff_exists.mp hv
   obtain ⟨a, us, rfl, q1, y⟩ := lst_rv hK N1.rel x1 hx
   exact ⟨a, rfl, .inl ⟨⟨us, q1⟩, p1 c1 _ (.refl N1.rel) rfl (goesD_list hK x1 hv)⟩⟩
  ·rw [if_neg (show ¬ (seqV (.ref n) c1.h).isSome = true from hv)] at p1; exact p1.elim
 | _ => exact p1.elim
end
section
open MeetsSeq MeetsSeq2 MeetsSeq3 SeqRoads2
variable {prog : Program} {w : World} {A : Around} {R : Result → Shared → Prop}
end
section
variable {prog : Program} {w : World} {A : Around} {E : Value → Shared → Prop} {s : Shared}
end
open Classical in
section
variable {G : Gx} {X : Cx} {n : Nat}
def EqB (G : Gx) (X : Cx) (n : Nat) (f : AV → AV → AH → Option Bool) : Prop := ∀ (A : Around) (pins : List (Addr × Obj)) (s : Shared) (σ : L2.St) (c : Cfg) (v w : AV) (x y : V) (u1 u2 : Value) (b : Bool), L2.Sub X n A → Inv X pins σ c.H s → Rel G c → RV G c v x → RV G c w y → RelV x u1 → RelV y u2 → f v w c.h = some b →
 wpAny (model X.prog X.w) A (eqBool u1 u2) (fun r s' => r = b ∧ ∃ c', Nxt G c c' ∧ c'.h = c.h ∧ Inv X pins σ c'.H s') X.xe s
theorem EqB.mono {m : Nat} {f : AV → AV → AH → Option Bool} (h : EqB G X n f) (hn : n ≤ m) : EqB G X m f := fun A pins s σ c v w x y u1 u2 b sb => h A pins s σ c v w x y u1 u2 b (sb.mono hn)
end
section
variable {P : Program} {w : World} {A : Around} {E : Value → Shared → Prop} {d : Addr}
end
structure FunC (K : PySem.W.Frag) (x qual : Str) (st : Stmt) (f : Addr) (fd : FuncData) (cdv : Value) : Prop where
 ex : ∃ (oc : Value) (od : Option Addr) (kV doc pm : Value) (an : Option Addr) (ct : Value) (osl : Array (Option Value)),
  fd = PySem.W.fnOf x qual (defArgs st) (defBody st) (defScope st) .none kV doc pm an cdv ct ∧ K.lookup f = some ⟨oc, od, .func fd, osl⟩ ∧ PySem.W.codeIn K cdv qual = true
 kp : PySem.W.keepIn K (.ref f) = true
theorem FunC.fn {K : PySem.W.Frag} {x qual : Str} {st : Stmt} {f : Addr} {fd : FuncData} {cdv : Value} (F : FunC K x qual st f fd cdv) : Fun K x qual st f fd :=
 ⟨let ⟨oc, od, kV, doc, pm, an, ct, osl, h⟩ := F.ex; ⟨oc, od, kV, doc, pm, an, cdv, ct, osl, h⟩, F.kp⟩
section
variable {P : Program} {w : World} {K : PySem.W.Frag} {mg : Str → Option Value} {base : Heap}
structure FnKw (P : Program) (w : World) (K : PySem.W.Frag) (mg : Str → Option Value) (base : Heap) (k : Nat) (f : Addr) (a : Str) (sp : Sp) : Prop where
 run : ∀ (A : Around) (outer : List Env) (s : Shared) (H : Hp) (u : Value) (ws : List Value) (ks : List Str) (v : V) (zs : List V) (Q : VK) (E : XK), Room k A → Env0 P w K mg base A outer s H → RelV v u → Vals zs ws → zs.length = ks.length → ks.Nodup → (∀ y, y ∈ ks → y ≠ a) → ks.length ≤ 1000 →
  (∀ d, H d = none → sp [v, .ref d] (upd H d (.dK ((ks.map Sum.inr).zip zs))) Q E) → codeAny (model P w) A (.call (.ref f) ⟨[u], ks.zip ws⟩) (CR (L2.CX P w) outer P w H s Q E) s
end
section
variable {G : Gx} {B : Bx} {zs : Addr → Prop} {W : WX} {X : Cx} {c c' : Cfg} {L : List Addr} {τ : AS} {σ : SL} {pos p kp : Pos} {e : Expr} {es : List Expr} {m mc : ME} {ma mk : MA} {x a : Str} {kc k : Nat} {f : Addr} {fi : FI}
end
section
variable {prog : Program} {w : World} {A : Around} {E : Value → Shared → Prop} {s : Shared} {I : Addr} {g n : Nat} {fp wr : List Addr} {Gm : Array GenState → Array GenState → Prop} {F : Nat → Value → Prop} {St : Nat → Shared → Prop} {Q : Value → Shared → Prop} {dflt : Value}
end
abbrev Kpt (h h' : Heap) : Prop := ∀ b o, h.get? b = some o → h'.get? b = some o
section
variable {prog : Program} {w : World} {A : Around} {E : Value → Shared → Prop} {s : Shared} {f c' : Addr} {q : Str} {params : Arguments} {body : Expr} {scope : Scope} {clos : List (Str × Addr)} {pm ctv v : Value} {x : Str} {Q : Value → Shared → Prop}
structure LamAt (h : Heap) (f c' : Addr) (q : Str) (params : Arguments) (body : Expr) (scope : Scope) (clos : List (Str × Addr)) (pm ctv : Value) : Prop where
 at_ : h.get? f = some (PySem.W.kla_obj "<lambda>" q params body scope clos pm c' ctv)
 cd : ∃ (oc : Obj) (vs : Array Value) (t : Tok), h.get? c' = some oc ∧ oc.data = .fields vs ∧ vs[1]? = some (.str q t)
theorem LamAt.kp {h h' : Heap} (l : LamAt h f c' q params body scope clos pm ctv) (k : Kpt h h') : LamAt h' f c' q params body scope clos pm ctv :=
 ⟨k _ _ l.at_, let ⟨oc, vs, t, e, r⟩ := l.cd; ⟨oc, vs, t, k _ _ e, r⟩⟩
structure Lam1 (scope : Scope) (x : Str) : Prop where
 kind : scope.kind = .function
 co : scope.isCoroutine = false
 gen : scope.isGenerator = false
 cell : ∀ y ∈ scope.names, y.2 ≠ .cell
 loc : scope.names.lookup x = some .local
end
section
variable {prog : Program} {w : World} {K : PySem.W.Frag} {mg : Str → Option Value} {A : Around} {E : Value → Shared → Prop} {s : Shared} {H : Hp} {env : Env} {m : Str → Option Value} {x f k : Str} {p C dx aW : Addr} {fs : List (Str × V)} {z : Str} {p1 p2 p3 p4 : Pos} {j : Nat}
structure Lb (prog : Program) (w : World) (K : PySem.W.Frag) (mg : Str → Option Value) (s : Shared) (H : Hp) (env : Env) (m : Str → Option Value) (x : Str) (p C dx : Addr) (fs : List (Str × V)) : Prop where
 kin : K.In s.heap
 hok : HOk prog w H s.heap
 glob : s.heap.Ns mainGlobals mg
 ns : s.heap.Ns env.locals m
 gl : env.globals = mainGlobals
 kd : env.scope.kind = .function
 lc : env.kindOf x = some .local
 mx : m x = some (.ref p)
 ins : H p = some (.ins C dx fs)
 cls : Cls K C
theorem Lb.kp {s' : Shared} (l : Lb prog w K mg s H env m x p C dx fs) (k : Kpt s.heap s'.heap) : Lb prog w K mg s' H env m x p C dx fs :=
 { l with kin := l.kin.keeps k, hok := l.hok.kept k, glob := l.glob.keeps k, ns := l.ns.keeps k }
end
section
variable {prog : Program} {w : World} {K : PySem.W.Frag} {mg : Str → Option Value} {A : Around} {E : Value → Shared → Prop} {s : Shared} {H : Hp} {cenv : Env} {m : Str → Option Value} {word rules fits rx q : Str} {p C dx d f c' cf cr : Addr} {fs : List (Str × V)} {z : Str} {pf pr pw ps pc : Pos}
 {params : Arguments} {body : Expr} {lscope : Scope} {clos : List (Str × Addr)} {pm ctv v : Value} {kvs : List (Key × V)} {b : Bool}
structure Ft (prog : Program) (w : World) (K : PySem.W.Frag) (mg : Str → Option Value) (s : Shared) (H : Hp) (cenv : Env) (word rules fits : Str) (d f cf cr : Addr) (kvs : List (Key × V)) : Prop where
 kin : K.In s.heap
 hok : HOk prog w H s.heap
 glob : s.heap.Ns mainGlobals mg
 lim : s.heap.NoLimit
 kd : cenv.scope.kind = .function
 lw : cenv.kindOf word = some .local
 lr : cenv.kindOf rules = some .free
 lf : cenv.kindOf fits = some .free
 lcr : cenv.cells.lookup rules = some cr
 lcf : cenv.cells.lookup fits = some cf
 vr : s.heap.IsCell cr (some (.ref d))
 vf : s.heap.IsCell cf (some (.ref f))
 dk : Rd H d (.dK kvs)
theorem iscell_kp {h h' : Heap} {c : Addr} {v : Option Value} (k : Kpt h h') (x : h.IsCell c v) : h'.IsCell c v := by
 obtain ⟨o, ho, hd⟩ := x
 exact ⟨o, k _ _ ho, hd⟩
theorem Ft.kp {s' : Shared} (x : Ft prog w K mg s H cenv word rules fits d f cf cr kvs) (k : Kpt s.heap s'.heap) : Ft prog w K mg s' H cenv word rules fits d f cf cr kvs :=
 { x with kin := x.kin.keeps k, hok := x.hok.kept k, glob := x.glob.keeps k, lim := x.lim.keeps k, vr := iscell_kp k x.vr, vf := iscell_kp k x.vf }
end
section
variable {X : Cx} {pins : List (Addr × Obj)} {σ : L2.St} {H : Hp} {s : Shared}
end
def LamMean (prog : Program) (w : World) (K : PySem.W.Frag) (mg : Str → Option Value) (body : Expr) (lscope : Scope) (rx : Str) (C : Addr) (mean : List (Str × V) → Option Bool) : Prop :=
 ∀ (A' : Around) (E' : Value → Shared → Prop) (s' : Shared) (env : Env) (m' : Str → Option Value) (H : Hp) (p dx : Addr) (fs : List (Str × V)) (b : Bool), A'.units + 64 < cLine → Lb prog w K mg s' H env m' rx p C dx fs → env.scope = lscope → mean fs = some b →
  wpAny (model prog w) A' (eval body env) (fun u s2 => Keeps s' s2 ∧ u = .bool b) E' s'
section
variable {prog : Program} {w : World} {K : PySem.W.Frag} {mg : Str → Option Value} {lscope : Scope} {x f k g W : Str} {C aW : Addr} {p1 p2 p3 p4 p5 p6 p7 p8 p9 : Pos} {j : Nat} {ws : List Str}
end
def fwAns (pz : Str → Bool) (ws : List Str) : V := match ws.find? pz with
 | some z => .str z
 | none => .non
section
variable {X : Cx} {k : Nat} {cg Pg C : Addr} {words rules fits word rx q : Str} {p pw p1 px pi pf pr ps pc gpos pn pos : Pos} {j : Nat} {scope : Scope} {params : Arguments} {body : Expr} {lscope : Scope} {clos : List (Str × Addr)} {pm ctv : Value} {mean : List (Str × V) → Option Bool} {T d f c' : Addr} {ws : List Str} {kvs : List (Key × V)} {pz : Str → Bool}
end
structure FwOk (P : Program) (w : World) (K : PySem.W.Frag) (mg : Str → Option Value) (base : Heap) (k : Nat) (g Pg : Addr) : Prop where
 run : ∀ (A : Around) (outer : List Env) (s : Shared) (H : Hp) (Q : VK) (E : XK) (T d f c' C : Addr) (ws : List Str) (kvs : List (Key × V)) (pz : Str → Bool) (q rx : Str) (params : Arguments) (body : Expr) (lscope : Scope) (clos : List (Str × Addr)) (pm ctv : Value) (mean : List (Str × V) → Option Bool),
  Room k A → Env0 P w K mg base A outer s H → SqT K H T (ws.map V.str) → GxR.TabG H Pg → Rd H d (.dK kvs) → H c' = some (LamX.CodeO c' q) → s.heap.get? f = some (PySem.W.kla_obj "<lambda>" q params body lscope clos pm c' ctv) → H f = none → f ∉ frs outer →
  Lam1 lscope rx → (∀ u, bindArgs (PySem.W.kla_fn "<lambda>" q params body lscope clos pm (.ref c') ctv) ⟨[u], []⟩ = pure [(rx, u)]) → Cls K C → LamMean P w K mg body lscope rx C mean →
  (∀ z ∈ ws, ∃ p dx fs, valV kvs (.inr z) = some (.ref p) ∧ H p = some (.ins C dx fs) ∧ mean fs = some (pz z)) → (∀ H2, GxR.Tabbed Pg H H2 → Q (fwAns pz ws) H2) →
  codeAny (model P w) A (.call (.ref g) ⟨[.ref T, .ref d, .ref f], []⟩) (CR (L2.CX P w) outer P w H s Q E) s
section
variable {P : Program} {w : World} {K : PySem.W.Frag} {mg : Str → Option Value} {base : Heap} {x qual words rules fits word : Str} {st : Stmt} {g cg Pg : Addr} {fd : FuncData} {k j : Nat} {N : List Str} {p pw p1 px pi pf pr ps pc gpos pn pos prt : Pos} {scope : Scope}
end
section
variable {G : Gx} {X : Cx} {c : Cfg} {pins : List (Addr × Obj)} {σ : L2.St} {s : Shared} {cB PB : Addr} {q : Str} {params : Arguments} {body : Expr} {scope : Scope} {pos : Pos} {E : Value → Shared → Prop} {Q : Value → Shared → Prop}
theorem upd_com {H : Hp} {a b : Addr} {u v : HO} (n : a ≠ b) : upd (upd H a u) b v = upd (upd H b v) a u := by
 funext z
 unfold upd
 by_cases h1 : z = a
 ·subst h1
  simp [n]
 ·simp [h1]
theorem lam_mk (r : Rel G c) (I : Inv X pins σ c.H s) (TB : LamX.TabB X.base X.mg cB PB) (hcode : X.env.code = .ref cB) (hPB : (PB, q) ∈ G.tb) (hu : ∀ q', (PB, q') ∈ G.tb → q' = q) (hq : q = X.env.qual ++ "<lambda>") (hne : q ≠ Str.empty)
    (hdef : defaultsOf params X.env = ([], [])) (hfree : ∀ y ∈ scope.names, y.2 = .free → ∃ c, X.env.cells.lookup y.1 = some c)
    (h : ∀ (f c' : Addr) (pm ctv : Value) (c1 : Cfg) (s' : Shared), Nxt G c c1 → c1.h = c.h → Inv X pins σ c1.H s' → s'.heap.get? f = some (PySem.W.kla_obj "<lambda>" q params body scope (cloFrom X.env.cells scope.names []) pm c' ctv) → c1.H f = none → f ∉ frs X.stack →
      c1.H c' = some (LamX.CodeO c' q) → Q (.ref f) s') : wpAny (model X.prog X.w) X.A (eval (.Lambda params body scope pos) X.env) Q E s := by
  obtain ⟨ps, hP, ht, hnm⟩ := r.tab _ hPB
  have hnm := hnm hne
  have inT : s.heap.get? PB = some { cls := .none, data := .fields ps } := I.hok PB _ hP
  have notFrame : ∀ a : Addr, s.heap.objs.size ≤ a → a ∉ frs X.stack := fun a ha m => by
    rcases List.mem_cons.mp (I.stkSub _ m) with e | e
    · have lt := I.lt
      rw [← e] at lt
      exact absurd (Nat.lt_of_lt_of_le lt ha) (Nat.lt_irrefl _)
    · exact absurd e (I.nofs ha)
  refine PySem.W.kla_eval hdef ?_
  rw [← hq]
  rcases Option.eq_none_or_eq_some (codeAmong pos ps.toList) with e | ⟨cv, e⟩
  · refine PySem.W.kla_makeFunction (mg := X.mg) (c := cB) (P := PB) (ps := ps) (closure_ok hfree) I.ok.glob (I.mod.glob.keeps I.bk) hcode (TB.code.keeps I.bk) inT ht e TB.gP (TB.bm.keeps I.bk) fun c' ctv h' tk hx hge hlt hrec htb => ?_
    obtain ⟨c2, oc, vs, t, e2, hoc, hd, hv⟩ := hrec
    cases e2
    have big : s.heap.objs.size ≤ h'.objs.size := Nat.le_trans hge (Nat.le_of_lt hlt)
    have fresh : c.H c' = none := I.hok.fresh hge
    have J := LamX.inv_table (q := q) (t' := tk) (more := #[rawInt pos.line, rawInt pos.col, .ref c']) (h' := h'.push (PySem.W.kla_obj "<lambda>" q params body scope (cloFrom X.env.cells scope.names []) ((X.mg "__name__").getD .none) c' ctv)) I hP
      (fun b o hb z => Heap.get?_push_of_some _ (hx b o hb z)) (Heap.get?_push_of_some _ htb) hge ⟨oc, vs, t, Heap.get?_push_of_some _ hoc, hd, hv⟩
    have eL : (ps ++ #[rawInt pos.line, rawInt pos.col, .ref c']).toList = ps.toList ++ [rawInt pos.line, rawInt pos.col, .ref c'] := by simp
    have nPc : PB ≠ c' := ne_of_none hP fresh
    have N1 : Nxt G c { c with H := upd c.H c' (LamX.CodeO c' q) } := Nxt.temp r fresh
    have N2 := Nxt.tbl (c := { c with H := upd c.H c' (LamX.CodeO c' q) }) (P := PB) (ps := ps) (ps' := ps ++ #[rawInt pos.line, rawInt pos.col, .ref c']) N1.rel (by show upd c.H c' _ PB = _; rw [upd_ne nPc]; exact hP)
      (by rw [eL]; exact PySem.TriplesOk_snoc _ _ _ _ ht) fun q' hq' _ p' cv hcv => by
        rw [hu q' hq']
        rw [eL] at hcv
        rcases LamX.among_app _ ht hcv with z | z
        · obtain ⟨c0, z1, z2⟩ := hnm p' cv z
          exact ⟨c0, z1, by show upd c.H c' _ c0 = _; rw [upd_ne (ne_of_none z2 fresh)]; exact z2⟩
        · exact ⟨c', z, upd_same⟩
    have eH : upd (upd c.H PB (.tbl (ps ++ #[rawInt pos.line, rawInt pos.col, .ref c']))) c' (LamX.CodeO c' q) = upd (upd c.H c' (LamX.CodeO c' q)) PB (.tbl (ps ++ #[rawInt pos.line, rawInt pos.col, .ref c'])) := upd_com nPc
    rw [eH] at J
    refine h h'.objs.size c' ((X.mg "__name__").getD .none) ctv _ _ (N1.trans N2) rfl J (Heap.get?_push_size _ rfl) ?_ (notFrame _ big) ?_
    · show upd (upd c.H c' _) PB _ h'.objs.size = none
      rw [upd_ne (Nat.ne_of_gt (Nat.lt_of_lt_of_le (Heap.lt_size inT) big)), upd_ne (Nat.ne_of_gt hlt)]
      exact I.hok.fresh big
    · show upd (upd c.H c' _) PB _ c' = _
      rw [upd_ne (Ne.symm nPc), upd_same]
  · obtain ⟨c', rfl, hco⟩ := hnm pos cv e
    refine PySem.W.kla_makeFunctionHit (mg := X.mg) (c := cB) (P := PB) (ps := ps) (closure_ok hfree) I.ok.glob (I.mod.glob.keeps I.bk) hcode (TB.code.keeps I.bk) inT ht e (TB.bm.keeps I.bk) fun ctv h' tk hx hsz => ?_
    have J : Inv X pins σ c.H { s with heap := h'.push (PySem.W.kla_obj "<lambda>" q params body scope (cloFrom X.env.cells scope.names []) ((X.mg "__name__").getD .none) c' ctv), toks := tk } := I.kept fun b o z => Heap.get?_push_of_some _ (hx b o z)
    exact h h'.objs.size c' ((X.mg "__name__").getD .none) ctv c _ (.refl r) rfl J (Heap.get?_push_size _ rfl) (I.hok.fresh hsz) (notFrame _ hsz) hco
end
section
variable {G : Gx} {B : Bx} {W : WX} {X : Cx} {c : Cfg} {a b : Expr} {m1 m2 : ME} {x rx q : Str} {g Pg cB PB : Addr} {k kR : Nat} {p lpos pos : Pos} {params : Arguments} {body : Expr} {lscope : Scope} {mean : List (Str × V) → Option Bool} {meanA : List (Nat × AV) → Option Bool}
end
end PI
namespace PI
open PySem PySem.Spec PyProof.Rows L2
def kAugI (f : Int → Int → Int) (v w : AV) (h : AH) : Option (AV × AH) := match v with
  | .int a => match w with
    | .int b => some (.int (f a b), h)
    | _ => none
  | _ => none
@[simp] theorem kAugI_ev {f : Int → Int → Int} {a b : Int} {h : AH} : kAugI f (.int a) (.int b) h = some (.int (f a b), h) := rfl
def fAug (i : Nat) (k : AV → AV → AH → Option (AV × AH)) (v : AV) (τ : AS) : AV → AH → SRes := fun w h => match k v w h with
 | some (z, h') => if i < τ.length then .nx (τ.set i (some z)) h' else .stuck
 | none => .stuck
def sAug2 (i : Nat) (k : AV → AV → AH → Option (AV × AH)) (m : ME) (τ : AS) (h : AH) : Option (Option AV) → SRes
 | some (some v) => if plainV v then (m τ h).bindS τ (fAug i k v τ) else .stuck
 | _ => .stuck
def sAug (i : Nat) (k : AV → AV → AH → Option (AV × AH)) (m : ME) : MS := fun τ h => sAug2 i k m τ h τ[i]?
@[simp] theorem sAug_ev {i : Nat} {k : AV → AV → AH → Option (AV × AH)} {m : ME} {τ : AS} {h : AH} : sAug i k m τ h = sAug2 i k m τ h τ[i]? := rfl
@[simp] theorem sAug2_ev {i : Nat} {k : AV → AV → AH → Option (AV × AH)} {m : ME} {τ : AS} {h : AH} {v : AV} : sAug2 i k m τ h (some (some v)) = if plainV v then (m τ h).bindS τ (fAug i k v τ) else .stuck := rfl
@[simp] theorem fAug_ev {i : Nat} {k : AV → AV → AH → Option (AV × AH)} {v w : AV} {τ : AS} {h : AH} : fAug i k v τ w h = match k v w h with
 | some (z, h') => if i < τ.length then .nx (τ.set i (some z)) h' else .stuck
 | none => .stuck := rfl
section
variable {G : Gx} {B : Bx} {zs : Addr → Prop} {W : WX} {X : Cx} {c c' : Cfg} {L : List Addr} {τ : AS} {σ : SL} {pos pos' tpos q1 : Pos} {e o : Expr} {m mo : ME}
theorem ao_augI {f : Int → Int → Int} : AO2 G (kAugI f) (ipI f) := fun c v w u x Q r xv xw p => by
 unfold kAugI at p
 cases xv with
 | int =>
  cases xw with
  | int => exact ⟨_, _, rfl, rfl, p c _ (.refl r) rfl .int⟩
  | _ => exact p.elim
 | _ => exact p.elim
theorem is_aug (i : Nat) {x : Str} {op : Operator} {k : AV → AV → AH → Option (AV × AH)} {ti : TIp} (hN : X.N.Nodup) (ho : PIp X op ti) (hk : AO2 G k ti) (he : IE G B W X e m) (hi : X.N[i]? = some x := by rfl) (hx : Loc X.env.scope x := by first | exact Or.inl rfl | exact Or.inr rfl)
    (hf : X.fn x = true ∨ X.env.scope.names.lookup x = some .local := by first | exact .inl rfl | exact .inr rfl | assumption) : IS G B zs W X (.AugAssign (.Name x pos') op e pos) (sAug i k m) := PS.imp (ps_aug hN hi hx he ho hf) fun D σ H ⟨c, τ, L, eH, r, o, s, p⟩ => by
  unfold sAug at p
  subst eH
  cases q : τ[i]? with
  | none => rw [q] at p; exact p.elim
  | some v =>
    cases v with
    | none => rw [q] at p; exact p.elim
    | some v =>
      rw [q] at p
      unfold sAug2 at p
      by_cases hv : plainV v = true
      · simp only [hv, if_true] at p
        obtain ⟨u, eu, xv⟩ := s.get q hv
        refine ⟨u, eu, c, τ, L, rfl, r, s, (PostS.bindS (R := RV G) o s p).imp fun w H1 ⟨c1, aw, e1, N1, x1, p1⟩ => ?_⟩
        subst e1
        refine hk c1 v aw u w _ N1.rel (xv.mono N1.mv) x1 ?_
        unfold fAug at p1
        cases e2 : k v aw c1.h with
        | none => rw [e2] at p1; exact p1.elim
        | some zh =>
          obtain ⟨z, h'⟩ := zh
          rw [e2] at p1
          simp only at p1
          by_cases hl : i < τ.length
          · rw [if_pos hl] at p1
            intro c2 uz N2 eh xz
            obtain ⟨L', S, s'⟩ := RS.put N2.rel ((o.nxt N1).nxt N2) ((s.nxt N1).nxt N2) hl xz
            exact p1 c2 L' _ ((Stp.of N2 (o.nxt N1)).trans S) eh s'
          · rw [if_neg hl] at p1; exact p1.elim
      · simp only [hv, if_false, Bool.false_eq_true] at p
        exact p.elim
end
section
variable {prog : Program} {w : World} {A : Around} {E : Value → Shared → Prop} {s : Shared} {T : String} {r d : Addr} {n : Nat} {P : Nat → Value → Prop} {OK : Heap → Prop}
end
section
variable {G : Gx} {c : Cfg}
end
end PI
namespace PI
open PySem PySem.Spec PyProof.Rows L2 ItX
def TtO (T it : Addr) : HO := .ext fun h => h.IsTupleIter it T 0
structure ItOk (P : Program) (w : World) (K : PySem.W.Frag) (mg : Str → Option Value) (base : Heap) (k : Nat) (f C : Addr) (fx : Str) : Prop where
 run : ∀ (A : Around) (outer : List Env) (s : Shared) (H : Hp) (Q : VK) (E : XK) (a dx T : Addr) (fs : List (Str × V)) (zs : List V), Room k A → Env0 P w K mg base A outer s H → H a = some (.ins C dx fs) → fs.lookup fx = some (.ref T) → SqT K H T zs →
  (∀ it, H it = none → s.heap.objs.size ≤ it → Q (.ref it) (upd H it (TtO T it))) → codeAny (model P w) A (.call (.ref f) ⟨[.ref a], []⟩) (CR (L2.CX P w) outer P w H s Q E) s
section
variable {P : Program} {w : World} {K : PySem.W.Frag} {mg : Str → Option Value} {base : Heap} {qual self fx : Str} {st : Stmt} {f C : Addr} {fd : FuncData} {k : Nat} {N : List Str} {p p1 p2 pos prt : Pos}
end
section
variable {G : Gx} {B : Bx} {W : WX} {X : Cx} {c : Cfg} {e tg : Expr} {m : ME} {f : Addr} {fi kc k : Nat} {fx : Str}
end
end PI
namespace PI
open PySem PySem.Spec PyProof.Rows L2
def lamQ (x : Str) : Str := x ++ ".<locals>." ++ "<lambda>"
section
variable {G : Gx} {f g : Nat} {fx gx k : Str} {ws : List Str}
end
end PI
namespace PI
open PySem
theorem tb_one {l : List (Addr × Str)} (n : (l.map (·.1)).Nodup) : ∀ {P : Addr} {q q' : Str}, (P, q) ∈ l → (P, q') ∈ l → q' = q := by
 induction l with
 | nil => intro P q q' h; cases h
 | cons p r ih =>
  intro P q q' h h'
  rw [List.map_cons, List.nodup_cons] at n
  rcases List.mem_cons.mp h with e | e
  ·rcases List.mem_cons.mp h' with e' | e'
   ·rw [← e] at e'
    exact (Prod.mk.inj e').2
   ·exact absurd (List.mem_map_of_mem (f := (·.1)) e') (by rw [← e] at n; exact n.1)
  ·rcases List.mem_cons.mp h' with e' | e'
   ·exact absurd (List.mem_map_of_mem (f := (·.1)) e) (by rw [← e'] at n; exact n.1)
   ·exact ih n.2 e e'
end PI
namespace PI
open PySem PySem.Spec PyProof.Rows L2
section
variable {τ : AS} {h h1 h2 h3 h4 : AH} {m1 m2 m3 m4 : ME} {v v1 v2 v3 v4 : AV} {kc : Nat} {I : AS → AH → Prop} {m n : MS}
theorem bin2 {k : AV → AV → AH → Option (AV × AH)} (e1 : m1 τ h = .ok v1 h1) (e2 : m2 τ h1 = .ok v2 h2) (e3 : k v1 v2 h2 = some (v, h3)) : mBin k m1 m2 τ h = .ok v h3 := by
 rw [mBin_ev, e1, bind_ok, fBin_ev, e2, bind_ok, fBin2_ev, e3]
 rfl
theorem call_ev (f : FN) (m : MA) (τ : AS) (h : AH) : mCall f m τ h = (m τ h).bind f := rfl
theorem cl1 {f : FN} (e1 : m1 τ h = .ok v1 h1) (e3 : f [v1] h1 = .ok v h2) : mCall f (mCons m1 mNil) τ h = .ok v h2 := by
 rw [call_ev, mCons_ev, e1, bind_ok, fCons_ev, mNil_ev, bind_ok, fCons2_ev, bind_ok, e3]
theorem cl2 {f : FN} (e1 : m1 τ h = .ok v1 h1) (e2 : m2 τ h1 = .ok v2 h2) (e3 : f [v1, v2] h2 = .ok v h3) : mCall f (mCons m1 (mCons m2 mNil)) τ h = .ok v h3 := by
 rw [call_ev, mCons_ev, e1, bind_ok, fCons_ev, mCons_ev, e2, bind_ok, fCons_ev, mNil_ev, bind_ok, fCons2_ev, bind_ok, fCons2_ev, bind_ok, e3]
theorem cl3 {f : FN} (e1 : m1 τ h = .ok v1 h1) (e2 : m2 τ h1 = .ok v2 h2) (e3 : m3 τ h2 = .ok v3 h3) (e : f [v1, v2, v3] h3 = .ok v h4) : mCall f (mCons m1 (mCons m2 (mCons m3 mNil))) τ h = .ok v h4 := by
 rw [call_ev, mCons_ev, e1, bind_ok, fCons_ev, mCons_ev, e2, bind_ok, fCons_ev, mCons_ev, e3, bind_ok, fCons_ev, mNil_ev, bind_ok, fCons2_ev, bind_ok, fCons2_ev, bind_ok, fCons2_ev, bind_ok, e]
theorem par2 {i j : Nat} (e1 : m1 τ h = .ok v1 h1) (e2 : m2 τ h1 = .ok v2 h2) (hi : i < τ.length ∧ j < τ.length) : sPar i j (mCons m1 (mCons m2 mNil)) τ h = .nx ((τ.set i (some v1)).set j (some v2)) h2 := by
 rw [sPar_ev, mCons_ev, e1, bind_ok, fCons_ev, mCons_ev, e2, bind_ok, fCons_ev, mNil_ev, bind_ok, fCons2_ev, bind_ok, fCons2_ev, bindS_ok, fPar_ev, if_pos hi]
theorem fl2 (e1 : m1 τ h = .ok v1 h1) (e2 : m2 τ h1 = .ok v2 h2) : mL kFl (mCons m1 (mCons m2 mNil)) τ h = .ok (.fl [v1, v2]) h2 := by
 rw [mL_ev, mCons_ev, e1, bind_ok, fCons_ev, mCons_ev, e2, bind_ok, fCons_ev, mNil_ev, bind_ok, fCons2_ev, bind_ok, fCons2_ev, bind_ok, fL_ev]
 rfl
theorem l1_ok {k : List AV → AH → Option (AV × AH)} (e1 : m1 τ h = .ok v1 h1) (e : k [v1] h1 = some (v, h2)) : mL k (mCons m1 mNil) τ h = .ok v h2 := by
 rw [mL_ev, mCons_ev, e1, bind_ok, fCons_ev, mNil_ev, bind_ok, fCons2_ev, bind_ok, fL_ev, e]
 rfl
theorem l2_ok {k : List AV → AH → Option (AV × AH)} (e1 : m1 τ h = .ok v1 h1) (e2 : m2 τ h1 = .ok v2 h2) (e : k [v1, v2] h2 = some (v, h3)) : mL k (mCons m1 (mCons m2 mNil)) τ h = .ok v h3 := by
 rw [mL_ev, mCons_ev, e1, bind_ok, fCons_ev, mCons_ev, e2, bind_ok, fCons_ev, mNil_ev, bind_ok, fCons2_ev, bind_ok, fCons2_ev, bind_ok, fL_ev, e]
 rfl
theorem var_ok {i : Nat} (e : τ[i]? = some (some v)) (p : plainV v = true) : mVar i τ h = .ok v h := by simp [mVar, e, p]
theorem c_ok : mC v τ h = .ok v h := rfl
theorem tb_ok {b : Bool} (e : m1 τ h = .ok (.bl b) h1) : mB m1 τ h = .ok b h1 := by
 show (m1 τ h).bind _ = _
 rw [e]
 rfl
theorem if_skip {c : MT} (e : c τ h = .ok false h1) : sIf c m sSkip τ h = .nx τ h1 := by
 show (c τ h).bindS τ _ = _
 rw [e]
 rfl
theorem or_t {c d : MT} (e1 : c τ h = .ok true h1) : mTOr c d τ h = .ok true h1 := by
 show (c τ h).bind _ = _
 rw [e1]
 rfl
theorem or_f {c d : MT} {q : Bool} (e1 : c τ h = .ok false h1) (e2 : d τ h1 = .ok q h2) : mTOr c d τ h = .ok q h2 := by
 show (c τ h).bind _ = _
 rw [e1]
 exact e2
theorem not_t {c : MT} (e1 : c τ h = .ok true h1) : mTNot c τ h = .ok false h1 := by
 show (c τ h).bind _ = _
 rw [e1]
 rfl
theorem not_f {c : MT} (e1 : c τ h = .ok false h1) : mTNot c τ h = .ok true h1 := by
 show (c τ h).bind _ = _
 rw [e1]
 rfl
theorem and_f {c d : MT} (e1 : c τ h = .ok false h1) : mTAnd c d τ h = .ok false h1 := by
 show (c τ h).bind _ = _
 rw [e1]
 rfl
theorem and_t {c d : MT} {q : Bool} (e1 : c τ h = .ok true h1) (e2 : d τ h1 = .ok q h2) : mTAnd c d τ h = .ok q h2 := by
 show (c τ h).bind _ = _
 rw [e1]
 exact e2
theorem goon_set {i : Nat} (e : m1 τ h = .ok v h1) (hi : i < τ.length) (k : Goon I (n (τ.set i (some v)) h1)) : Goon I (sSeq (sSet i m1) n τ h) := by
 rw [sSeq_ev, sSet_ev, e, bindS_ok, show fSet i τ v h1 = .nx (τ.set i (some v)) h1 from if_pos hi, thn_nx]
 exact k
theorem goon_par {i j : Nat} (e1 : m1 τ h = .ok v1 h1) (e2 : m2 τ h1 = .ok v2 h2) (hi : i < τ.length ∧ j < τ.length) (k : Goon I (n ((τ.set i (some v1)).set j (some v2)) h2)) : Goon I (sSeq (sPar i j (mCons m1 (mCons m2 mNil))) n τ h) := by
 rw [sSeq_ev, par2 e1 e2 hi, thn_nx]
 exact k
end
end PI
namespace PI
open PySem PySem.Spec PyProof.Rows L2 ClX
section
open PySem.W
variable {prog : Program} {w : World} {K : Type} [DecidableEq K] {knd : KeyKind prog w K} {A : Around} {E : Value → Shared → Prop} {s : Shared}
end
section
variable {G : Gx} {X : Cx} {n : Nat}
end
section
variable {prog : Program} {w : World} {A : Around} {E : Value → Shared → Prop} {s : Shared} {l : Addr}
end
section
variable {G : Gx} {X : Cx} {c : Cfg} {pins : List (Addr × Obj)} {σ : SL} {s : Shared} {A : Around}
end
section
variable {G : Gx} {B : Bx} {W : WX} {X : Cx} {c0 : Pos} {j : Nat} {x : Str}
end
structure FmtOk (K : PySem.W.Frag) (C : Addr) : Prop where
 fm : PySem.W.findIn K (.ref C) "__format__" = some (some (.builtin "object.__format__"))
 mr : PySem.W.mroIn K C (.type "object") = some true
section
variable {G : Gx} {B : Bx} {W : WX} {X : Cx} {c : Cfg} {e : Expr} {m : ME} {pos : Pos}
end
section
variable {G : Gx} {c : Cfg}
theorem RVs.app2 : ∀ {vs ws : List AV} {us ts : List V}, RVs G c vs us → RVs G c ws ts → RVs G c (vs ++ ws) (us ++ ts)
 | [], _, _, _, .nil, y => y
 | _ :: _, _, _, _, .cons x t, y => .cons x (RVs.app2 t y)
theorem RVs.rep {vs : List AV} {us : List V} (x : RVs G c vs us) : ∀ k : Nat, RVs G c (List.replicate k vs).flatten (List.replicate k us).flatten
 | 0 => .nil
 | k + 1 => by
  rw [List.replicate_succ, List.replicate_succ, List.flatten_cons, List.flatten_cons]
  exact RVs.app2 x (RVs.rep x k)
end
section
variable {G : Gx} {B : Bx} {W : WX} {X : Cx} {c : Cfg} {o e : Expr} {mo me : ME} {apos pos : Pos}
end
section
variable {G : Gx} {B : Bx} {W : WX} {X : Cx} {c : Cfg} {a : Expr} {m : ME} {ml mh : MO} {pos p2 : Pos}
end
section
variable {τ : AS} {h : AH} {m : MA} {v w : AV}
end
section
variable {G : Gx} {B : Bx} {W : WX} {X : Cx} {c c' : Cfg} {tg e : Expr} {ma : MA} {pos p : Pos}
end
section
variable {G : Gx} {B : Bx} {W : WX} {X : Cx} {c c' : Cfg} {τ : AS} {pos p apos cpos : Pos} {e o f : Expr} {mo mi mx : ME}
end
section
variable {G : Gx} {B : Bx} {c c' c2 : Cfg} {a b d : Addr} {n : Nat} {L : List Addr} {τ : AS} {σ : SL}
structure Ml (c c' : Cfg) : Prop where
 h : c'.h = c.h
 rho : c'.rho = c.rho
 keep : ∀ b o, c.H b = some o → (∀ kvs, o ≠ .dK kvs) → (∀ x kvs, o ≠ .frz x (.dK kvs)) → c'.H b = some o
 dct : ∀ b kvs, Rd c.H b (.dK kvs) → Rd c'.H b (.dK kvs)
 z : c'.Z = c.Z
theorem Ml.frz (N : Ml c c') (f : Frz c b) : Frz c' b := ⟨fun n o q => by rw [N.h] at q; rw [N.rho]; exact f.1 n o q, by rw [N.z]; exact f.2⟩
theorem Ml.rd {u : HO} (N : Ml c c') (r : Rd c.H a u) (h1 : ∀ kvs, u ≠ .dK kvs) (h2 : ∀ x w, u ≠ .frz x w) : Rd c'.H a u := by
 rcases r with e | ⟨o, e⟩
 ·exact .inl (N.keep _ _ e h1 fun x kvs => h2 x _)
 ·exact .inr ⟨o, N.keep _ _ e (fun _ q => by cases q) fun x kvs q => by cases q; exact h1 _ rfl⟩
mutual
theorem RV.ml (N : Ml c c') : ∀ {v : AV} {u : V}, RV G c v u → RV G c' v u
 | _, _, .non => .non
 | _, _, .bl => .bl
 | _, _, .int => .int
 | _, _, .str k => .str k
 | _, _, .ty => .ty
 | _, _, .cls => .cls
 | _, _, .fn => .fn
 | _, _, .kd => .kd
 | _, _, .ref (n := n) hn => by rw [← N.rho]; exact .ref (by rw [N.h]; exact hn)
 | _, _, .tup r f x => .tup (N.rd r (fun _ q => by cases q) (fun _ _ q => by cases q)) (N.frz f) (RVs.ml N x)
 | _, _, .tupK k x => .tupK k (RVs.ml N x)
 | _, _, .fl r f x => .fl (N.rd r (fun _ q => by cases q) (fun _ _ q => by cases q)) (N.frz f) (RVs.ml N x)
 | _, _, .flK k x => .flK k (RVs.ml N x)
 | _, _, .fd r f x => .fd (N.dct _ _ r) (N.frz f) (RVd.ml N x)
 | _, _, .obj e f x => .obj (N.keep _ _ e (fun _ q => by cases q) (fun _ _ q => by cases q)) (N.frz f) (RVf.ml N x)
theorem RVs.ml (N : Ml c c') : ∀ {v : List AV} {u : List V}, RVs G c v u → RVs G c' v u
 | _, _, .nil => .nil
 | _, _, .cons r x => .cons (RV.ml N r) (RVs.ml N x)
theorem RVf.ml (N : Ml c c') : ∀ {v : List (Nat × AV)} {u : List (Str × V)}, RVf G c v u → RVf G c' v u
 | _, _, .nil => .nil
 | _, _, .cons r x => .cons (RV.ml N r) (RVf.ml N x)
theorem RVd.ml (N : Ml c c') : ∀ {v : List (Key × AV)} {u : List (Key × V)}, RVd G c v u → RVd G c' v u
 | _, _, .nil => .nil
 | _, _, .cons k r x => .cons k (RV.ml N r) (RVd.ml N x)
end
theorem RO.ml {o : AO} (N : Ml c c') (e : c'.H a = c.H a) (r : RO G c o a) : RO G c' o a := by
 cases o with
 | lst xs => obtain ⟨us, q, x⟩ := r; exact ⟨us, e.trans q, x.ml N⟩
 | dk xs => obtain ⟨us, q, x⟩ := r; exact ⟨us, e.trans q, x.ml N⟩
 | ins c fs => obtain ⟨dx, us, q, x⟩ := r; exact ⟨dx, us, e.trans q, x.ml N⟩
theorem RX.ml {x : XC} {fs : List (Nat × AV)} {cls : Value} {d : Option Addr} (N : Ml c c') (r : RX G c x fs cls d) : RX G c' x fs cls d := by
 obtain ⟨e, r⟩ := r
 refine ⟨e, ?_⟩
 rcases r with r | ⟨dd, uf, e1, r1, f1, x1⟩
 ·exact .inl r
 ·exact .inr ⟨dd, uf, e1, N.keep _ _ r1 (fun _ q => by cases q) (fun _ _ q => by cases q), N.frz f1, x1.ml N⟩
theorem SR.ml {l : List Addr} {o : Option AV} {t : Option V} (N : Ml c c') (zz : ∀ a, c.Z a → c'.H a = c.H a) (r : SR G B c l o t) : SR G B c' l o t := by
 have z : ∀ a, c.Z a → c'.Z a := fun a h => by rw [N.z]; exact h
 cases r with
 | skip => exact .skip
 | val x => exact .val (x.ml N)
 | mL z1 e x => exact .mL (z _ z1) ((zz _ z1).trans e) (x.ml N)
 | mD z1 e x => exact .mD (z _ z1) ((zz _ z1).trans e) (x.ml N)
 | mI z1 e x => exact .mI (z _ z1) ((zz _ z1).trans e) (x.ml N)
 | mE x => exact .mE (x.ml N)
theorem RS.ml (N : Ml c c') (zz : ∀ a, c.Z a → c'.H a = c.H a) (r : RS G B c L τ σ) : RS G B c' L τ σ := by
 induction r with
 | nil => exact .nil
 | cons x _ ih => exact .cons (x.ml N zz) ih
end
section
variable {G : Gx} {B : Bx} {zs : Addr → Prop} {W : WX} {X : Cx} {c c' c1 : Cfg} {L : List Addr} {τ : AS} {σ : SL} {pos pos' p : Pos} {e o a : Expr} {me m : ME} {ma : MA} {mt : MT} {x s : Str} {i : Nat}
end
end PI
namespace PI
open PySem PySem.Spec PyProof.Rows L2 ClX
section
variable {G : Gx} {X : Cx} {n : Nat}
end
end PI
namespace PI
open PySem PySem.Spec PyProof.Rows L2 GenW
section
variable {M : Model} {A : Around} {R : GenEnd} {Y : Protocol} {n : Nat} {s₀ : Shared} {c : Code} {fs : List Frame} {s : Shared} {env : Env}
 {K : Flow → Sem PySem.Fin} {H : Value → Sem PySem.Fin} {gd : Bool → Bool} {lv : List Value → List Value}
end
section
variable {prog : Program} {w : World} {A : Around} {R : GenEnd} {Y : Protocol} {n : Nat} {s₀ : Shared} {fs : List Frame} {s : Shared} {env : Env}
end
section
variable {X : Cx}
end
structure ScN (N : List Str) : Prop where
 nd : N.Nodup
section
variable {P : Program} {w : World} {K : PySem.W.Frag} {mg : Str → Option Value} {base : Heap}
end
section
variable {G : Gx} {B : Bx} {W : WX} {X : Cx} {e : Expr} {es : List Expr} {ma : MA} {pos p p2 pos2 : Pos} {x : Str}
end
end PI
namespace PI
open PySem PySem.Spec PyProof.Rows L2 ClX
section
open MeetsSeq MeetsSeq2 MeetsSeq3 SeqRoads2
variable {prog : Program} {w : World} {A : Around} {R : Result → Shared → Prop}
end
section
variable {prog : Program} {w : World} {A : Around} {E : Value → Shared → Prop} {s : Shared}
end
section
variable {G : Gx} {X : Cx} {n : Nat}
end
end PI
namespace PI
open PySem PySem.Spec PyProof.Rows L2
section
variable {G : Gx} {B : Bx} {W : WX} {X : Cx} {e o : Expr} {mo mi : ME} {apos cpos : Pos} {τ : AS}
end
end PI
namespace PI
open PySem PySem.Spec PyProof.Rows L2 ClX
section
variable {X : Cx}
end
section
variable {G : Gx} {B : Bx} {zs : Addr → Prop} {W : WX} {X : Cx} {c c' : Cfg} {L : List Addr} {τ : AS} {σ : SL} {pos pos' p apos cpos tpos : Pos} {e o a b f : Expr} {es : List Expr} {m n mo me mi mx : ME} {ma mk : MA} {mt : MT} {x s : Str} {i : Nat} {vs : List Nat}
end
section
open PySem.SeqAt
open AutoSeq1 (wpAny_loadPart')
open MeetsSeq MeetsSeq2 MeetsSeq3 SeqRoads2
variable {prog : Program} {w : World}
end
section
variable {G : Gx} {X : Cx} {c : Cfg} {pins : List (Addr × Obj)} {σ : SL} {s : Shared} {A : Around}
end
section
variable {G : Gx} {X : Cx}
end
section
variable {G : Gx} {B : Bx} {zs : Addr → Prop} {W : WX} {X : Cx} {c c' c1 : Cfg} {L : List Addr} {τ : AS} {σ : SL} {pos pos' p p2 p3 : Pos} {e o a : Expr} {me m : ME} {ma : MA} {mt : MT} {x s : Str}
end
end PI
namespace PI
open PySem PySem.Spec PyProof.Rows L2
structure FnVa (P : Program) (w : World) (K : PySem.W.Frag) (mg : Str → Option Value) (base : Heap) (k : Nat) (f : Addr) (n : Str) (dz : V) (sp : Sp) : Prop where
 run : ∀ (A : Around) (outer : List Env) (s : Shared) (H : Hp) (u : Value) (us : List Value) (kw : List (Str × Value)) (v z : V) (vs : List V) (Q : VK) (E : XK), Room k A → Env0 P w K mg base A outer s H → RelV v u → Vals vs us →
  ((∃ wv, kw = [(n, wv)] ∧ RelV z wv) ∨ (kw = [] ∧ z = dz)) → vs.length ≤ sizeLine →
  (∀ p, H p = none → sp [v, z, .ref p] (upd H p (.tup vs)) Q E) → codeAny (model P w) A (.call (.ref f) ⟨u :: us, kw⟩) (CR (L2.CX P w) outer P w H s Q E) s
section
variable {P : Program} {w : World} {K : PySem.W.Frag} {mg : Str → Option Value} {base : Heap}
end
section
variable {G : Gx} {B : Bx} {zs : Addr → Prop} {W : WX} {X : Cx} {c c' : Cfg} {H : Hp} {L : List Addr} {τ : AS} {σ : SL} {pos p kp apos : Pos} {e o : Expr} {es : List Expr} {m : ME} {ma mk : MA} {kc k : Nat} {f : Addr} {n : Str} {dz : V}
end
end PI
namespace PI
open PySem PySem.Spec PyProof.Rows L2 ClX
def intAt (ns : List Int) (i : Nat) : Int := ns.getD i 0
theorem vals_ints : ∀ {ns : List Int} {its : List Value}, Vals (ns.map V.int) its → its.length = ns.length ∧ ∀ (i : Nat) (v : Value), its[i]? = some v → ∃ t, v = .int (intAt ns i) t
 | [], _, r => by cases r; exact ⟨rfl, fun i v e => by simp at e⟩
 | z :: ss, _, r => by
  cases r with
  | @cons p q ps qs h t =>
   obtain ⟨h1, h2⟩ := vals_ints t
   refine ⟨by simp [h1], fun i v e => ?_⟩
   cases i with
   | zero => simp at e; subst e; exact h
   | succ i => obtain ⟨t', e'⟩ := h2 i v (by simpa using e); exact ⟨t', e'⟩
section
variable {prog : Program} {w : World} {A : Around} {E : Value → Shared → Prop} {s : Shared} {l : Addr}
end
section
variable {G : Gx} {B : Bx} {W : WX} {X : Cx} {c : Cfg} {pins : List (Addr × Obj)} {σ : SL} {s : Shared} {A : Around} {pos p : Pos} {e : Expr} {es : List Expr} {ma mk : MA}
end
section
variable {G : Gx} {X : Cx}
end
structure FnG (P : Program) (w : World) (K : PySem.W.Frag) (mg : Str → Option Value) (base : Heap) (k : Nat) (f : Addr) (fd : FuncData) (ps : List Str) (sp : Sp) : Prop where
 ln : ∀ {us : List V} {H : Hp} {Q : VK} {E : XK}, sp us H Q E → us.length = ps.length
 go : ∀ {A : Around} {fr : List Env} {s : Shared} {H : Hp} {ar : Args} {us : List Value} {vs : List V} {Q : VK} {E : XK}, Room k A ∧ A.guards = some [] → Env0 P w K mg base A fr s H → BindsTo s fd ar (ps.zip us) ∧ Vals vs us ∧ sp vs H Q E →
  codeAny (model P w) A (.call (.ref f) ar) (CR (L2.CX P w) fr P w H s Q E) s
section
variable {P : Program} {w : World} {K : PySem.W.Frag} {mg : Str → Option Value} {base : Heap} {k : Nat} {f : Addr} {fd : FuncData} {ps : List Str} {sp : Sp}
theorem FnG.of (F : FnOk P w K mg base (L2.CX P w) k f fd ps sp) : FnG P w K mg base k f fd ps sp :=
 ⟨fun h => F.len _ _ _ _ h, fun hr e b => F.run _ _ _ _ _ _ _ _ _ hr.1 e b.1 b.2.1 b.2.2⟩
theorem FnG.imp {sp' : Sp} (F : FnG P w K mg base k f fd ps sp) (h : ∀ us H Q E, sp' us H Q E → sp us H Q E) : FnG P w K mg base k f fd ps sp' :=
 ⟨fun q => F.ln (h _ _ _ _ q), fun hr e b => F.go hr e ⟨b.1, b.2.1, h _ _ _ _ b.2.2⟩⟩
theorem FnG.more {j : Nat} (F : FnG P w K mg base j f fd ps sp) (h : j ≤ k) : FnG P w K mg base k f fd ps sp := ⟨F.ln, fun hr e b => F.go ⟨hr.1.mono h, hr.2⟩ e b⟩
end
section
variable {G : Gx} {B : Bx} {W : WX} {X : Cx} {e : Expr} {es : List Expr} {ma : MA} {pos p : Pos} {k : Nat} {f : Addr} {fd : FuncData} {ps : List Str} {fn : FN} {N : Nat} {x : Str}
end
end PI
namespace PI
open PySem PySem.Spec PyProof.Rows L2
section
variable {P : Program} {w : World} {K : PySem.W.Frag} {mg mb : Str → Option Value} {k : Nat} {fa a : Addr} {cs : List (Addr × Addr)} {fd : FuncData} {x : Str} {sp : Sp} {s1 : Shared} {vs : List Value} {ns : List Int}
structure Alone (K : PySem.W.Frag) (cs : List (Addr × Addr)) (a : Addr) (H : Hp) : Prop where
 tb : ∀ p ∈ cs, H p.2 = some (.tbl #[])
 only : ∀ b, H b ≠ none → b = a ∨ b ∈ cs.map (·.2)
 kind : ∀ b, H b = none ∨ b ∈ cs.map (·.2) ∨ ∃ o xs, H b = some (.frz o (.lst xs))
 nk : H a ≠ none → K.lookup a = none
structure TopOk (K : PySem.W.Frag) (mg mb : Str → Option Value) (a : Addr) (cs : List (Addr × Addr)) (vs : List Value) (s1 : Shared) : Prop where
 KX : K.In s1.heap
 ns : s1.heap.Ns mainGlobals mg
 nb : s1.heap.Ns builtinsNs mb
 bb : ∀ x : Str, x ≠ "__name__" → mb x = bootBuiltins x
 lim : s1.heap.NoLimit
 gens : s1.gens = #[]
 hT : ∀ p ∈ cs, s1.heap.get? p.2 = some { cls := .none, data := .fields #[] }
 nT : ∀ p ∈ cs, K.lookup p.2 = none
 C : ∀ p ∈ cs, PySem.W.CodeHd s1.heap p.1 p.2
 bm : ∃ (bm : Addr) (ob : Obj), mg "__builtins__" = some (.ref bm) ∧ bm ≠ builtinsNs ∧ s1.heap.get? bm = some ob ∧ ob.cls = .type "module" ∧ ob.dict = some builtinsNs ∧ ob.data = .plain
 scr : s1.heap.get? a = some { cls := .type "list", data := .seq vs.toArray }
theorem TopOk.tab (O : TopOk K mg mb a cs vs s1) {b : Addr} (hb : b ∈ cs.map (·.2)) : s1.heap.get? b = some { cls := .none, data := .fields #[] } := by
 obtain ⟨p, hp, rfl⟩ := List.mem_map.mp hb
 exact O.hT p hp
theorem TopOk.free (O : TopOk K mg mb a cs vs s1) {H : Hp} (B : Alone K cs a H) {b : Addr} {o : Obj} (e : s1.heap.get? b = some o) (h1 : ∀ vs n, o.data ≠ .seq vs n) (h2 : o.data ≠ .fields #[]) : H b = none := by
 by_cases q : H b = none
 ·exact q
 ·rcases B.only b q with rfl | hb
  ·rw [O.scr] at e; cases e; exact (h1 _ _ rfl).elim
  ·rw [O.tab hb] at e; cases e; exact (h2 rfl).elim
theorem TopOk.freeD (O : TopOk K mg mb a cs vs s1) {H : Hp} (B : Alone K cs a H) {b : Addr} {o : Obj} {es : Array DictEntry} {ep : Nat} (e : s1.heap.get? b = some o) (d : o.data = .dict es ep) : H b = none :=
 O.free B e (fun _ _ z => by rw [d] at z; cases z) fun z => by rw [d] at z; cases z
theorem TopOk.hideN (O : TopOk K mg mb a cs vs s1) {H : Hp} (B : Alone K cs a H) {b : Addr} {m : Str → Option Value} (n : s1.heap.Ns b m) : (hidT s1.heap H).Ns b m := by
 obtain ⟨o, es, ep, e, d, r⟩ := n
 exact ⟨o, es, ep, hidT_get e (O.freeD B e d), d, r⟩
theorem TopOk.hideK (O : TopOk K mg mb a cs vs s1) {H : Hp} (B : Alone K cs a H) : K.In (hidT s1.heap H) := fun b o e => by
 refine hidT_get (O.KX b o e) (Classical.byContradiction fun q => ?_)
 rcases B.only b q with rfl | hb
 ·rw [B.nk q] at e; cases e
 ·obtain ⟨p, hp, rfl⟩ := List.mem_map.mp hb
  rw [O.nT p hp] at e; cases e
theorem TopOk.tabB (O : TopOk K mg mb a cs vs s1) {H : Hp} (B : Alone K cs a H) : ∀ p ∈ cs, LamX.TabB (hidT s1.heap H) mg p.1 p.2 := fun p hp => by
 obtain ⟨og, esg, epg, eg, dg, _⟩ := O.ns
 refine ⟨?_, ?_, fun z => by rw [z, O.hT p hp] at eg; cases eg; cases dg⟩
 ·obtain ⟨o, us, file, tf, flags, tg, inF, text, tt, e1, r1, r2, r3, r⟩ := O.C p hp
  exact ⟨o, us, file, tf, flags, tg, inF, text, tt, hidT_get e1 (O.free B e1 (fun _ _ z => by rw [r2] at z; cases z) fun z => by rw [r2] at z; cases z; simp at r3), r1, r2, r3, r⟩
 ·obtain ⟨bm, ob, b1, b2, b3, b4, b5, b6⟩ := O.bm
  exact ⟨bm, ob, b1, b2, (fun q => by rw [q, eg] at b3; cases b3; rw [dg] at b6; cases b6), (fun q => by rw [q, O.hT p hp] at b3; cases b3; cases b6), hidT_get b3 (O.free B b3 (fun _ _ z => by rw [b6] at z; cases z) fun z => by rw [b6] at z; cases z), b4, b5, b6⟩
theorem TopOk.run (O : TopOk K mg mb a cs vs s1) (hr : Room k callerA) (F : ∀ b : Heap, K.In b → b.Ns mainGlobals mg → (∀ p ∈ cs, LamX.TabB b mg p.1 p.2) → FnG P w K mg b k fa fd [x] sp) (hbind : ∀ (s : Shared) (u : Value), BindsTo s fd ⟨[u], []⟩ [(x, u)])
  {H : Hp} (B : Alone K cs a H) (hS : SqL K H a (ns.map V.int)) (hok : HOk P w H s1.heap) (hsp : sp [.ref a] H (fun v _ => v = .bl true) fun _ _ _ => False) :
  codeAny (model P w) callerA (.call (.ref fa) ⟨[.ref a], []⟩) (fun r s' => r = .ok (.ret (.bool true)) ∧ OldK s1.heap s'.heap ∧ s'.os = s1.os ∧ AllBare s'.gens) s1 := by
 obtain ⟨mc, m1, m2⟩ := O.lim
 have e0 : Env0 P w K mg (hidT s1.heap H) callerA [] s1 H := ⟨rfl, ⟨O.hideK B, O.hideN B O.ns, ⟨mb, O.hideN B O.nb, O.bb⟩, ⟨mc, O.hideN B m1, m2⟩⟩, fun _ _ e => of_hidT e, Nat.le_of_eq (hidT_size _ _), trivial, (fun b hb => by cases hb), hok, .of_eq O.gens⟩
 refine codeAny_mono ((F _ (O.hideK B) (O.hideN B O.ns) (O.tabB B)).go (us := [.ref a]) (vs := [.ref a]) ⟨hr, rfl⟩ e0 ⟨hbind s1 (.ref a), .cons rfl .nil, hsp⟩) fun r s' h => ?_
 rcases r with e | fl
 ·obtain ⟨_, _, _, _, _, _, _, _, _, _, _, _, z⟩ := h
  exact z.elim
 ·cases fl with
  | ret u =>
   obtain ⟨v, H', os, bare, un, hok', r', q⟩ := h
   have q' : v = .bl true := q
   subst q'
   obtain rfl : u = Value.bool true := r'
   have old : ∀ b o, b ∉ cs.map (·.2) → s1.heap.get? b = some o → s'.heap.get? b = some o := fun b o nb e => by
    rcases B.kind b with z | z | ⟨ob, xs, z⟩
    ·exact un.keep b o e z (by intro z; cases z) (by simp)
    ·exact absurd z nb
    ·have e1 := (hok b _ z).1
     have e2 := (hok' b _ (un.frzs b ob _ z)).1
     rw [e] at e1; cases e1; exact e2
   have grown : ∀ p ∈ cs, ∃ more : Array Value, s'.heap.get? p.2 = some { cls := .none, data := .fields more } := fun p hp =>
    let ⟨_, z⟩ := un.tbls p.2 #[] (B.tb p hp); ⟨_, hok' p.2 _ z⟩
   refine ⟨rfl, ⟨fun b o e => ?_, fun b o e => ?_⟩, os, bare⟩ <;> by_cases hb : b ∈ cs.map (·.2)
   ·obtain ⟨p, hp, rfl⟩ := List.mem_map.mp hb
    obtain ⟨more, hm⟩ := grown p hp
    rw [O.hT p hp] at e
    cases e
    exact .inr (.inl ⟨((O.C p hp).tab (O.hT p hp)).isCodeTable, rfl, #[], more, rfl, by rw [Array.empty_append]; exact hm⟩)
   ·exact .inl (old b o hb e)
   ·obtain ⟨p, hp, rfl⟩ := List.mem_map.mp hb
    obtain ⟨more, hm⟩ := grown p hp
    exact ⟨_, hm⟩
   ·exact ⟨o, old b o hb e⟩
  | next => exact False.elim h
  | brk => exact False.elim h
  | cont => exact False.elim h
theorem TopOk.call (O : TopOk K mg mb a cs vs s1) (hi : IntsAre vs ns) (hl : ns.length ≤ sizeLine) (hr : Room k callerA) (F : ∀ b : Heap, K.In b → b.Ns mainGlobals mg → (∀ p ∈ cs, LamX.TabB b mg p.1 p.2) → FnG P w K mg b k fa fd [x] sp) (hbind : ∀ (s : Shared) (u : Value), BindsTo s fd ⟨[u], []⟩ [(x, u)])
  (hsp : ∀ H : Hp, (∀ p ∈ cs, H p.2 = some (.tbl #[])) → SqL K H a (ns.map V.int) → sp [.ref a] H (fun v _ => v = .bl true) fun _ _ _ => False) :
  codeAny (model P w) callerA (.call (.ref fa) ⟨[.ref a], []⟩) (fun r s' => r = .ok (.ret (.bool true)) ∧ OldK s1.heap s'.heap ∧ s'.os = s1.os ∧ AllBare s'.gens) s1 := by
 have rv := L2.vals_ints hi
 have aT : a ∉ cs.map (·.2) := fun z => by
  have q := (O.tab z).symm.trans O.scr
  cases q
 have mT : ∀ p ∈ cs, p.2 ∈ cs.map (·.2) := fun p hp => List.mem_map.mpr ⟨p, hp, rfl⟩
 cases hk : K.lookup a with
 | some o =>
  have e := (O.KX a o hk).symm.trans O.scr
  cases e
  obtain ⟨H, hH⟩ : ∃ H : Hp, ∀ b, H b = if b ∈ cs.map (·.2) then some (.tbl #[]) else none := ⟨_, fun _ => rfl⟩
  have tb : ∀ p ∈ cs, H p.2 = some (.tbl #[]) := fun p hp => by rw [hH, if_pos (mT p hp)]
  have S : SqL K H a (ns.map V.int) := .inr ⟨_, vs.toArray, _, hk, rfl, rfl, rfl, by rw [List.size_toArray, hi.length]; exact hl, by simpa using rv⟩
  refine O.run hr F hbind ⟨tb, fun b z => ?_, fun b => ?_, fun z => ?_⟩ S (fun b u z => ?_) (hsp H tb S)
  ·rw [hH] at z; split at z <;> first | exact .inr (by assumption) | exact absurd rfl z
  ·rw [hH]; split <;> first | exact .inr (.inl (by assumption)) | exact .inl rfl
  ·rw [hH, if_neg aT] at z; exact absurd rfl z
  ·rw [hH] at z
   split at z
   ·cases z; exact O.tab (by assumption)
   ·cases z
 | none =>
  obtain ⟨H, hH⟩ : ∃ H : Hp, ∀ b, H b = if b = a then some (.frz { cls := .type "list", data := .seq vs.toArray } (.lst (ns.map V.int))) else if b ∈ cs.map (·.2) then some (.tbl #[]) else none := ⟨_, fun _ => rfl⟩
  have tb : ∀ p ∈ cs, H p.2 = some (.tbl #[]) := fun p hp => by rw [hH, if_neg (show ¬ p.2 = a from fun z => aT (by rw [← z]; exact mT p hp)), if_pos (mT p hp)]
  have S : SqL K H a (ns.map V.int) := .inl (.inr ⟨{ cls := .type "list", data := .seq vs.toArray }, by rw [hH, if_pos rfl]⟩)
  refine O.run hr F hbind ⟨tb, fun b z => ?_, fun b => ?_, fun _ => hk⟩ S (fun b u z => ?_) (hsp H tb S)
  ·rw [hH] at z
   split at z
   ·exact .inl (by assumption)
   ·split at z <;> first | exact .inr (by assumption) | exact absurd rfl z
  ·rw [hH]
   split
   ·exact .inr (.inr ⟨_, _, rfl⟩)
   ·split <;> first | exact .inr (.inl (by assumption)) | exact .inl rfl
  ·rw [hH] at z
   split at z
   ·rename_i hb
    subst hb
    cases z
    exact ⟨O.scr, by rw [List.length_map]; exact hl, vs, _, rv, O.scr⟩
   ·split at z
    ·cases z; exact O.tab (by assumption)
    ·cases z
end
theorem law_endG {P : Program} {w : World} {K : PySem.W.Frag} {mg : Str → Option Value} {base : Heap} {G : Gx} {f : Addr} {fd : FuncData} {k : Nat} {x : Str} {m : FN} (hK : K = G.K) (F : FnG P w K mg base k f fd [x] (spF G 1 m))
  (h : ∀ ns : List Int, ns.length ≤ 63 → ∃ h', m [.fl (ns.map .int)] [] = .ok (.bl true) h') : FnG P w K mg base k f fd [x] (fun vs H Q E => (∀ p, p ∈ G.tb → H p.1 = some (.tbl #[])) ∧ spLaw K vs H Q E) := F.imp fun vs H Q E ⟨hT, a, ns, e, S, hl, q⟩ => by
 subst e
 obtain ⟨h', e⟩ := h ns hl
 let c : Cfg := ⟨fun _ => False, fun _ => 0, [], H⟩
 have r : Rel G c := ⟨fun n o e => by simp [c] at e, fun n m o o' e => by simp [c] at e, fun a z => z.elim, fun p hp => ⟨#[], hT p hp, trivial, fun _ pos cv hc => by simp [codeAmong] at hc⟩⟩
 have fz : Frz c a := ⟨fun n o e => by simp [c] at e, fun z => z⟩
 refine ⟨c, [.fl (ns.map .int)], rfl, r, .cons (S.elim (fun S => .fl S fz (rvs_ints ns)) fun S => .flK (by rw [← hK]; exact S) (rvs_ints ns)) .nil, rfl, ?_⟩
 show Post G (RV G) c E Q (m _ [])
 rw [e]
 intro c' u N e2 x2
 cases x2
 exact q _
end PI
namespace PI
open PySem PySem.Spec PyProof.Rows L2 ClX
section
variable {G : Gx} {B : Bx} {W : WX} {X : Cx} {apos pos c0 c1 : Pos} {o : Expr} {mo : ME} {y z : Str} {j k : Nat}
end
section
variable {G : Gx} {B : Bx} {W : WX} {X : Cx} {apos cpos : Pos} {o e e2 : Expr} {mo : ME} {ma : MA} {c : Cfg}
end
structure GenS2 (env : Env) (scope : Scope) (xa xb : Str) : Prop where
 kind : scope.kind = .function
 co : scope.isCoroutine = false
 cell : ∀ y ∈ scope.names, y.2 ≠ .cell
 dot : scope.names.lookup (".0" : Str) = some NameKind.local
 la : scope.names.lookup xa = some .local
 lb : scope.names.lookup xb = some .local
 ab : xa ≠ xb
 free : ∀ y ∈ scope.names, y.2 = .free → ∃ c, env.cells.lookup y.1 = some c
section
variable {prog : Program} {w : World} {A : Around} {E : Value → Shared → Prop} {s : Shared} {cenv : Env} {m : Str → Option Value} {letter k z : Str} {v : Value} {p1 p2 p3 p4 p5 p6 : Pos} {j j2 : Nat} {whole : Sem Value}
end
section
variable {X : Cx} {pins : List (Addr × Obj)} {σ : L2.St} {H : Hp} {s : Shared}
end
section
variable {G : Gx} {B : Bx} {W : WX} {X : Cx}
end
section
variable {P : Program} {w : World} {K : PySem.W.Frag} {mg : Str → Option Value} {base : Heap}
theorem ok_fnC {G : Gx} {B : Bx} {x qual : Str} {st : Stmt} {f : Addr} {fd : FuncData} {N ps : List Str} {k : Nat} {b : MS} {cdv : Value} (F : FunC K x qual st f fd cdv) (S : FnScope N ps (defScope st))
    (hb : ∀ (A : Around) (outer : List Env) (s : Shared) (H : Hp) (E : XK) (zs : Addr → Prop), Room k (A.deeper (envOfC qual (defScope st) s.heap.objs.size f cdv)) →
      Takes (cxOf (L2.CX P w) P w K mg base N qual (defScope st) f cdv A outer s H E) (fun k d _ H' => E k d H') →
      ISs G B zs (fun k d _ H' => E k d H') (cxOf (L2.CX P w) P w K mg base N qual (defScope st) f cdv A outer s H E) (defBody st) b) :
    FnOk P w K mg base (L2.CX P w) (k + 1) f fd ps (spF G ps.length (runF N.length b)) := by
  obtain ⟨oc, od, kV, doc, pm, an, ct, osl, rfl, lk, hcd⟩ := F.ex
  refine fn_of lk hcd S (fun vs H Q E h => ?_) fun A outer s H vs Q E hr h => ?_
  · obtain ⟨c, ws, _, _, x, e, _⟩ := h
    rw [← x.length, e]
  · obtain ⟨c, ws, eH, r, x, e, p⟩ := h
    refine ⟨_, hb A outer s H E c.Z hr (takes_of rfl rfl rfl rfl), ?_⟩
    refine ⟨c, _, [], eH, r, ⟨fun _ z => z, fun a h => absurd h (by simp), List.nodup_nil⟩, ?_, post_of p⟩
    unfold L2.start
    rw [x.length]
    exact RS.start x _
end
section
variable {X : Cx} {a b c e f o : Expr} {es : List Expr} {ta tb te to : TE} {t : TA} {pos apos cpos c0 : Pos} {x : Str} {j : Nat}
end
section
variable {G : Gx} {B : Bx} {zs : Addr → Prop} {W : WX} {X : Cx} {a b c e f o : Expr} {es : List Expr} {m n mo : ME} {ma : MA} {mt : MT} {ns : MS} {pos apos cpos c0 : Pos} {x : Str} {i j : Nat} {st : Stmt}
end
section
variable {X : Cx} {pins : List (Addr × Obj)} {σ : SL} {H : Hp} {s : Shared}
end
section
variable {G : Gx} {X : Cx} {c c' : Cfg}
end
end PI
namespace PI
open PySem PySem.Spec PyProof.Rows L2
structure FnV0 (P : Program) (w : World) (K : PySem.W.Frag) (mg : Str → Option Value) (base : Heap) (k : Nat) (f : Addr) (sp : Sp) : Prop where
 run : ∀ (A : Around) (outer : List Env) (s : Shared) (H : Hp) (u : Value) (us : List Value) (v : V) (vs : List V) (Q : VK) (E : XK), Room k A → Env0 P w K mg base A outer s H → RelV v u → Vals vs us → vs.length ≤ sizeLine →
  (∀ p, H p = none → sp [v, .ref p] (upd H p (.tup vs)) Q E) → codeAny (model P w) A (.call (.ref f) ⟨u :: us, []⟩) (CR (L2.CX P w) outer P w H s Q E) s
section
variable {P : Program} {w : World} {K : PySem.W.Frag} {mg : Str → Option Value} {base : Heap}
end
section
variable {G : Gx} {B : Bx} {zs : Addr → Prop} {W : WX} {X : Cx} {c c' : Cfg} {H : Hp} {L : List Addr} {τ : AS} {σ : SL} {pos p kp apos sps : Pos} {e o : Expr} {es : List Expr} {m mt : ME} {ma mk : MA} {kc k : Nat} {f : Addr} {n : Str} {dz : V}
end
end PI
namespace EZ
open PySem PySem.Spec PyProof.Rows L2
open AutoSeq1 (wpAny_loadPart')
abbrev IsZipG (h : Heap) (z TI TO : Addr) (f0 : Value) (f1 : Bool) : Prop :=
 h.get? z = some { cls := .type "zip", dict := none, data := .fields #[f0, .bool f1, .bool false, .ref TI, .ref TO], slots := #[] }
structure ZSt (h : Heap) (z TI TO i1 i2 l1 l2 : Addr) (i : Nat) : Prop where
 hz : ∃ f0 f1, IsZipG h z TI TO f0 f1 ∧ (f0 = .none ∨ ∃ T : Addr, f0 = rawInt T)
 hTI : IsPair h TI (.ref i1) (.ref i2)
 hTO : ∃ x y, IsPair h TO x y
 h1 : h.IsListIter i1 l1 i
 h2 : h.IsListIter i2 l2 i
theorem ZSt.keep {h h' : Heap} {z TI TO i1 i2 l1 l2 : Addr} {i : Nat} (S : ZSt h z TI TO i1 i2 l1 l2 i) (k : ∀ b, b = z ∨ b = TI ∨ b = TO ∨ b = i1 ∨ b = i2 → ∀ o, h.get? b = some o → h'.get? b = some o) : ZSt h' z TI TO i1 i2 l1 l2 i := by
 obtain ⟨⟨f0, f1, e, q⟩, a, ⟨x, y, b⟩, c, d⟩ := S
 exact ⟨⟨f0, f1, k z (.inl rfl) _ e, q⟩, k TI (.inr (.inl rfl)) _ a, ⟨x, y, k TO (.inr (.inr (.inl rfl))) _ b⟩, c.at fun o q => k i1 (.inr (.inr (.inr (.inl rfl)))) o q, d.at fun o q => k i2 (.inr (.inr (.inr (.inr rfl)))) o q⟩
section
variable {prog : Program} {w : World} {A : Around} {E : Value → Shared → Prop} {s : Shared}
theorem ZSt.type {z TI TO i1 i2 l1 l2 : Addr} {i : Nat} (S : ZSt s.heap z TI TO i1 i2 l1 l2 i) : s.TypeIs (.ref z) "zip" := by
 obtain ⟨⟨f0, f1, hz, _⟩, _⟩ := S
 exact ⟨_, hz, rfl⟩
structure EApart (e z TI TO i1 i2 : Addr) : Prop where
 z : e ≠ z
 TI : e ≠ TI
 TO : e ≠ TO
 i1 : e ≠ i1
 i2 : e ≠ i2
end
end EZ
namespace PI
open PySem PySem.Spec PyProof.Rows L2 ClX
section
variable {G : Gx} {B : Bx} {W : WX} {X : Cx} {c c' : Cfg} {p pz pos posz : Pos} {e e2 : Expr} {ma : MA}
end
section
variable {G : Gx} {B : Bx} {zs : Addr → Prop} {c c2 : Cfg} {L L2 : List Addr} {n : Nat} {τ : AS} {σ : SL}
theorem RX.mw (N : Mw c c2) {x : XC} {fs : List (Nat × AV)} {cls : Value} {d : Option Addr} (r : RX G c x fs cls d) : RX G c2 x fs cls d := by
 obtain ⟨e, q⟩ := r
 refine ⟨e, ?_⟩
 rcases q with q | ⟨dd, uf, h1, h2, h3, h4⟩
 ·exact .inl q
 ·exact .inr ⟨dd, uf, h1, (N.keep _ _ h2 rfl h3).1, (N.keep _ _ h2 rfl h3).2, h4.mw N⟩
theorem SR.mw (N : Mw c c2) {l : List Addr} {o : Option AV} {t : Option V} (r : SR G B c l o t) (z : ∀ a, a ∈ l → c2.Z a ∧ c2.H a = c.H a) : SR G B c2 l o t := by
 cases r with
 | skip => exact .skip
 | val x => exact .val (x.mw N)
 | mL z1 e x => exact .mL (z _ List.mem_cons_self).1 ((z _ List.mem_cons_self).2.trans e) (x.mw N)
 | mD z1 e x => exact .mD (z _ List.mem_cons_self).1 ((z _ List.mem_cons_self).2.trans e) (x.mw N)
 | mI z1 e x => exact .mI (z _ List.mem_cons_self).1 ((z _ List.mem_cons_self).2.trans e) (x.mw N)
 | mE x => exact .mE (x.mw N)
theorem RS.mw (N : Mw c c2) (r : RS G B c L τ σ) (z : ∀ a, a ∈ L → c2.Z a ∧ c2.H a = c.H a) : RS G B c2 L τ σ := by
 induction r with
 | nil => exact .nil
 | cons x _ ih => exact .cons (x.mw N fun a h => z a (List.mem_append_left _ h)) (ih fun a h => z a (List.mem_append_right _ h))
end
section
variable {G : Gx} {B : Bx} {zs : Addr → Prop} {W : WX} {X : Cx} {c c1 : Cfg} {L : List Addr} {τ : AS} {σ : SL} {pos apos cpos tpos : Pos} {e o : Expr} {es : List Expr} {m mo : ME} {ma mk : MA} {ms : MS} {D : Ends}
def sFldAdd (ks : List Nat) (f : Nat) (o m : ME) : MS := fun τ h => (o τ h).bindS τ fun w h => match w with
  | .ref n => match h[n]? with
    | some (some (.ins k fs)) => match fs.lookup f with
      | some (.int i) => if ks.contains k then (m τ h).bindS τ fun v h1 => match v, h1[n]? with
        | .int j, some (some (.ins k' fs')) => if decide (k' = k) && few fs' then .nx τ (h1.set n (some (.ins k (aput f (.int (i + j)) fs')))) else .stuck
        | _, _ => .stuck else .stuck
      | _ => .stuck
    | _ => .stuck
  | _ => .stuck
theorem is_fldadd {ks : List Nat} {f : Nat} {fx : Str} (ho : IE G B W X o mo) (he : IE G B W X e m) (hf : fx = G.nm f) (hks : ∀ k, k ∈ ks → FldOk G X.K f k) : IS G B zs W X (.AugAssign (.Attribute o fx tpos) .Add e pos) (sFldAdd ks f mo m) := by
 subst hf
 refine PS.imp (ps_fldaug ho he in_add) fun D σ H ⟨c, τ, L, eH, r, ow, s, p⟩ => ?_
 refine ⟨c, τ, L, eH, r, s, (PostS.bindS (R := RV G) ow s p).imp fun u H1 ⟨c1, w, e1, N1, x1, p1⟩ => ?_⟩
 subst e1
 cases x1 with
 | @ref n hn =>
  simp only at p1
  split at p1
  ·rename_i k fs q
   split at p1
   ·rename_i i ql
    by_cases hk : ks.contains k = true
    ·rw [if_pos hk] at p1
     have hk' : k ∈ ks := by simpa using hk
     obtain ⟨dx, uf, q1, q2⟩ := N1.rel.obj n _ q
     obtain ⟨u2, e2, x2⟩ := q2.get ql
     cases x2
     refine ⟨_, _, dx, uf, _, rfl, q1, (hks k hk').cl, (hks k hk').no, e2, ?_⟩
     refine ⟨c1, τ, L, rfl, N1.rel, s.nxt N1, (PostS.bindS (R := RV G) (ow.nxt N1) (s.nxt N1) p1).imp fun u3 H2 ⟨c2, v, e3, N2, x3, p2⟩ => ?_⟩
     subst e3
     try simp only at p2
     split at p2
     ·rename_i j k' fs' qq
      by_cases hk2 : (decide (k' = k) && few fs') = true
      ·rw [if_pos hk2] at p2
       rw [Bool.and_eq_true] at hk2
       obtain rfl := of_decide_eq_true hk2.1
       obtain ⟨dx2, uf2, q3, q4⟩ := N2.rel.obj n _ qq
       have hr : c2.rho n = c1.rho n := N2.mv.same n hn
       rw [hr] at q3
       cases x3
       refine ⟨i, j, rfl, rfl, dx2, uf2, q3, len_few q4 hk2.2, ?_⟩
       have N3 := Nxt.write (o' := .ins k' (aput f (.int (i + j)) fs')) (O := .ins (G.ca k') dx2 (putF (G.nm f) (.int (i + j)) uf2)) N2.rel qq fun c3 M e3 => ⟨dx2, _, e3, (q4.put .int).mono M⟩
       rw [hr] at N3
       have o2 := (ow.nxt N1).nxt N2
       exact p2 _ L σ (Stp.of N3 o2) rfl (((s.nxt N1).nxt N2).nxt N3)
      ·rw [if_neg hk2] at p2; exact p2.elim
     ·exact p2.elim
    ·rw [if_neg hk] at p1; exact p1.elim
   ·exact p1.elim
  ·exact p1.elim
 | _ => exact p1.elim
def fMetN2 (nn nk : Nat) (pk : List Nat) (dws : List AV) (fn : FN) (v : AV) (vs : List AV) : List AV → AH → Res AV := fun zs h => if vs.length + 1 = nn ∧ zs.length = nk then fn (pickL pk (v :: vs ++ zs ++ dws)) h else .stuck
def fMetN1 (nn nk : Nat) (pk : List Nat) (dws : List AV) (fn : FN) (v : AV) (mk : MA) (τ : AS) : List AV → AH → Res AV := fun vs h => (mk τ h).bind (fMetN2 nn nk pk dws fn v vs)
def fMetN (kc mi nn nk : Nat) (pk : List Nat) (dws : List AV) (fn : FN) (ma mk : MA) (τ : AS) : AV → AH → Res AV := fun v h => match fldsOf v h with
 | some (k', fs) => if k' = kc ∧ (fs.lookup mi).isNone then (ma τ h).bind (fMetN1 nn nk pk dws fn v mk τ) else .stuck
 | none => .stuck
def mMetN (kc mi nn nk : Nat) (pk : List Nat) (dws : List AV) (fn : FN) (o : ME) (ma mk : MA) : ME := fun τ h => (o τ h).bind (fMetN kc mi nn nk pk dws fn ma mk τ)
@[simp] theorem mMetN_ev {kc mi nn nk : Nat} {pk : List Nat} {dws : List AV} {fn : FN} {h : AH} : mMetN kc mi nn nk pk dws fn m ma mk τ h = (m τ h).bind (fMetN kc mi nn nk pk dws fn ma mk τ) := rfl
@[simp] theorem fMetN1_ev {nn nk : Nat} {pk : List Nat} {dws : List AV} {fn : FN} {v : AV} {vs : List AV} {h : AH} : fMetN1 nn nk pk dws fn v mk τ vs h = (mk τ h).bind (fMetN2 nn nk pk dws fn v vs) := rfl
@[simp] theorem fMetN2_ev {nn nk : Nat} {pk : List Nat} {dws : List AV} {fn : FN} {v : AV} {vs zs : List AV} {h : AH} : fMetN2 nn nk pk dws fn v vs zs h = if vs.length + 1 = nn ∧ zs.length = nk then fn (pickL pk (v :: vs ++ zs ++ dws)) h else .stuck := rfl
theorem metN_end {k N nn : Nat} {f : Addr} {fd : FuncData} {ps ks : List Str} {pk : List Nat} {dws : List AV} {fn : FN} {pins : List (Addr × Obj)} {s2 : Shared} {Q : VK} {c2 : Cfg} {pp : Addr} {v : AV} {vs ws' : List AV} {us ws : List Value} {us' zs' : List V}
  (F : FnOk X.prog X.w X.K X.mg X.base (L2.CX X.prog X.w) k f fd ps (spF G N fn)) (hr : Room k X.A) (tk : Takes X W) (hb : KBD G X.K fd ps nn ks pk dws) (I2 : Inv X pins σ c2.H s2) (rl : Rel G c2) (rv : RV G c2 v (.ref pp))
  (r1 : Vals us' us) (x1 : RVs G c2 vs us') (r2 : Vals zs' ws) (x2 : RVs G c2 ws' zs') (p : Post G (RV G) c2 (fun k d H' => W k d σ H') Q (fMetN2 nn ks.length pk dws (chk N fn) v vs ws' c2.h)) :
  wpAny (model X.prog X.w) X.A (call (.ref f) (.ref pp :: us) (ks.zip ws)) (fun w s' => ∃ x H', Inv X pins σ H' s' ∧ RelV x w ∧ Q x H') X.xe s2 := by
 obtain ⟨dvs, ds, rd, gd, kb⟩ := hb.ex
 unfold fMetN2 at p
 by_cases hl : vs.length + 1 = nn ∧ ws'.length = ks.length
 ·rw [if_pos hl] at p
  have hN : (pickL pk (v :: vs ++ ws' ++ dws)).length = N := by
   unfold chk at p
   by_cases q : (pickL pk (v :: vs ++ ws' ++ dws)).length = N
   ·exact q
   ·rw [if_neg q] at p; exact p.elim
  have p2' : Post G (RV G) c2 (fun k d H' => W k d σ H') Q (fn (pickL pk (v :: vs ++ ws' ++ dws)) c2.h) := by
   unfold chk at p; rw [if_pos hN] at p; exact p
  have xx := pick_rvs (((RVs.cons rv x1).append x2).append (gd c2)) pk
  have hr2 := kb.rel (.cons (show RelV (.ref pp) (.ref pp) from rfl) r1) r2
  refine wpAny_call (codeAny_mono (F.run X.A X.stack s2 c2.H ⟨.ref pp :: us, ks.zip ws⟩ (pickL pk (.ref pp :: us ++ ws ++ ds)) (pickL pk (.ref pp :: us' ++ zs' ++ dvs)) Q (fun k d H' => W k d σ H') hr I2.env0 (kb.to s2 (.ref pp :: us) ws I2.kIn (by rw [List.length_cons, ← r1.length, ← x1.length]; exact hl.1) (by rw [← r2.length, ← x2.length]; exact hl.2)) hr2 (sp_of rl xx hN p2')) fun r s' hq => ?_)
  cases r with
  | error e => exact (passAt tk σ) pins c2.H s2 e s' I2 hq
  | ok fl =>
   cases fl with
   | ret u => exact I2.after hq
   | next => exact False.elim hq
   | brk => exact False.elim hq
   | cont => exact False.elim hq
 ·rw [if_neg hl] at p; exact p.elim
theorem ie_metN {k N nn : Nat} {f : Addr} {fd : FuncData} {ps ks : List Str} {kc mi : Nat} {mx : Str} {pl : Sem Bool} {pk : List Nat} {dws : List AV} {fn : FN} {kws : List Keyword} (ho : IE G B W X o m) (hmx : mx = G.nm mi) (cl : Cls X.K (G.ca kc)) (hm : Meth X.K (G.ca kc) mx f)
    (F : FnOk X.prog X.w X.K X.mg X.base (L2.CX X.prog X.w) k f fd ps (spF G N fn)) (hr : Room k X.A) (tk : Takes X W) (hb : KBD G X.K fd ps nn ks pk dws)
    (ha : IA G B W X (e :: es) ma) (hkw : IK G B W X kws mk) (hall : (backToKw pos (keywordEach kws X.env)).all (·.1.isSome) = true := by rfl) (hks : (backToKw pos (keywordEach kws X.env)).filterMap (·.1) = ks := by rfl)
    (hst : starEach (e :: es) X.env = (false, eval e X.env) :: starEach es X.env := by rfl) (hpl : ((backTo pos (starEach (e :: es) X.env)).any (·.1) || (backToKw pos (keywordEach kws X.env)).any (·.1.isNone)) = false := by rfl)
    (ht : eval (.Call (.Attribute o mx apos) (e :: es) kws pos) X.env = (do
      let ov ← eval o X.env
      standAt apos.atName
      let (f, first) ← holding [ov] (getMethod ov mx pl)
      callWith pos f first (backTo pos (starEach (e :: es) X.env)) (backToKw pos (keywordEach kws X.env))) := by rfl) :
    IE G B W X (.Call (.Attribute o mx apos) (e :: es) kws pos) (mMetN kc mi nn ks.length pk dws (chk N fn) m ma mk) := by
  subst hmx
  refine ⟨fun pins s σ H Q I ⟨c, τ, L, eH, rl, s', q⟩ => ?_⟩
  refine PySem.W.methodCall_KW (pl := pl) (thn (ho.run pins s σ H _ I ⟨c, τ, L, eH, rl, s', Post.bind (R := RV G) q⟩) fun u s1 ⟨y, H1, I1, ry, c1, v, e1, N1, x1, p1⟩ => ?_) ht
  subst e1
  change Post G (RV G) c1 (fun k d H' => W k d σ H') Q (fMetN kc mi nn ks.length pk dws (chk N fn) ma mk τ v c1.h) at p1
  unfold fMetN at p1
  cases q1 : fldsOf v c1.h with
  | none => rw [q1] at p1; exact p1.elim
  | some kf =>
    obtain ⟨k', fs⟩ := kf
    rw [q1] at p1
    simp only at p1
    by_cases hk : k' = kc ∧ (fs.lookup mi).isNone = true
    · rw [if_pos hk] at p1
      obtain ⟨hk1, hk2⟩ := hk
      subst hk1
      obtain ⟨pp, dx, uf, rfl, ep, xf⟩ := inst_at N1.rel x1 q1
      obtain rfl : u = Value.ref pp := ry
      refine getmeth_ok I1 ep cl hm (xf.none (by simpa using hk2)) ?_
      refine PySem.W.callWith_KW (first := [.ref pp]) (h₀ := X.base) I.ok.mod.kin hm.kp hall (thn (ha.run pos pins s1 σ c1.H _ I1 ⟨c1, τ, L, rfl, N1.rel, s'.nxt N1, Post.bind (R := RVs G) p1⟩) fun us s2 ⟨ws, H2, I2, r2, c2, vs, e2, N2, x2, p2⟩ => ?_) hpl hst
      refine thn (hkw.run pos pins s2 σ H2 _ I2 ⟨c2, τ, L, e2.symm, N2.rel, (s'.nxt N1).nxt N2, Post.bind (R := RVs G) p2⟩) fun wsv s3 ⟨zs, H3, I3, r3, c3, ys, e3, N3, x3, p3⟩ => ⟨I3.kIn, ?_⟩
      rw [hks]
      subst e3
      exact metN_end F hr tk hb I3 N3.rel ((x1.mono N2.mv).mono N3.mv) r2 (x2.mono N3.mv) r3 x3 p3
    · rw [if_neg hk] at p1
      exact p1.elim
theorem ie_metN0 {k N nn : Nat} {f : Addr} {fd : FuncData} {ps ks : List Str} {kc mi : Nat} {mx : Str} {pl : Sem Bool} {pk : List Nat} {dws : List AV} {fn : FN} {kws : List Keyword} (ho : IE G B W X o m) (hmx : mx = G.nm mi) (cl : Cls X.K (G.ca kc)) (hm : Meth X.K (G.ca kc) mx f)
    (F : FnOk X.prog X.w X.K X.mg X.base (L2.CX X.prog X.w) k f fd ps (spF G N fn)) (hr : Room k X.A) (tk : Takes X W) (hb : KBD G X.K fd ps nn ks pk dws)
    (hkw : IK G B W X kws mk) (hall : (backToKw pos (keywordEach kws X.env)).all (·.1.isSome) = true := by rfl) (hks : (backToKw pos (keywordEach kws X.env)).filterMap (·.1) = ks := by rfl)
    (hpl : ((backTo pos (starEach [] X.env)).any (·.1) || (backToKw pos (keywordEach kws X.env)).any (·.1.isNone)) = false := by rfl)
    (ht : eval (.Call (.Attribute o mx apos) [] kws pos) X.env = (do
      let ov ← eval o X.env
      standAt apos.atName
      let (f, first) ← holding [ov] (getMethod ov mx pl)
      callWith pos f first (backTo pos (starEach [] X.env)) (backToKw pos (keywordEach kws X.env))) := by rfl) :
    IE G B W X (.Call (.Attribute o mx apos) [] kws pos) (mMetN kc mi nn ks.length pk dws (chk N fn) m mNil mk) := by
  subst hmx
  refine ⟨fun pins s σ H Q I ⟨c, τ, L, eH, rl, s', q⟩ => ?_⟩
  refine PySem.W.methodCall_KW (pl := pl) (thn (ho.run pins s σ H _ I ⟨c, τ, L, eH, rl, s', Post.bind (R := RV G) q⟩) fun u s1 ⟨y, H1, I1, ry, c1, v, e1, N1, x1, p1⟩ => ?_) ht
  subst e1
  change Post G (RV G) c1 (fun k d H' => W k d σ H') Q (fMetN kc mi nn ks.length pk dws (chk N fn) mNil mk τ v c1.h) at p1
  unfold fMetN at p1
  cases q1 : fldsOf v c1.h with
  | none => rw [q1] at p1; exact p1.elim
  | some kf =>
    obtain ⟨k', fs⟩ := kf
    rw [q1] at p1
    simp only at p1
    by_cases hk : k' = kc ∧ (fs.lookup mi).isNone = true
    · rw [if_pos hk] at p1
      obtain ⟨hk1, hk2⟩ := hk
      subst hk1
      obtain ⟨pp, dx, uf, rfl, ep, xf⟩ := inst_at N1.rel x1 q1
      obtain rfl : u = Value.ref pp := ry
      refine getmeth_ok I1 ep cl hm (xf.none (by simpa using hk2)) ?_
      refine PySem.W.callWith_KW0 (first := [.ref pp]) (h₀ := X.base) I.ok.mod.kin hm.kp hall ?_ hpl
      have p2 : Post G (RV G) c1 (fun k d H' => W k d σ H') Q ((mk τ c1.h).bind (fMetN2 nn ks.length pk dws (chk N fn) v [])) := p1
      refine thn (hkw.run pos pins s1 σ c1.H _ I1 ⟨c1, τ, L, rfl, N1.rel, s'.nxt N1, Post.bind (R := RVs G) p2⟩) fun wsv s3 ⟨zs, H3, I3, r3, c3, ys, e3, N3, x3, p3⟩ => ⟨I3.kIn, ?_⟩
      rw [hks]
      subst e3
      exact metN_end F hr tk hb I3 N3.rel (x1.mono N3.mv) .nil .nil r3 x3 p3
    · rw [if_neg hk] at p1
      exact p1.elim
end
section
variable {G : Gx} {B : Bx} {zs : Addr → Prop} {W : WX} {X : Cx} {c c' : Cfg} {L : List Addr} {τ : AS} {σ : SL} {pos : Pos}
end
open Classical in
section
variable {G : Gx} {X : Cx} {n : Nat}
end
end PI
namespace L2
open PySem PySem.Spec PyProof.Rows
section
variable {X : Cx} {pins : List (Addr × Obj)} {σ : St} {H : Hp} {s : Shared} {a b : Addr} {kvs us : List (Key × V)} {A : Around} {E : Value → Shared → Prop}
end
end L2
namespace PI
open PySem PySem.Spec PyProof.Rows L2
section
variable {G : Gx} {B : Bx} {W : WX} {X : Cx} {e o : Expr} {mo mi : ME} {apos cpos : Pos} {τ : AS}
end
end PI
namespace PI
open PySem PySem.Spec PyProof.Rows L2 ClX
section
variable {G : Gx} {B : Bx} {zs : Addr → Prop} {W : WX} {X : Cx} {c c1 c2 : Cfg} {L L2 : List Addr} {τ : AS} {σ : SL} {pos p : Pos} {ms : MS} {g : MG} {D : Ends} {d : Addr}
end
end PI
namespace PI
open PySem PySem.Spec PyProof.Rows L2 ClX Builtin Builtin.Str
section
variable {G : Gx} {B : Bx} {zs : Addr → Prop} {W : WX} {X : Cx} {c c' : Cfg} {L : List Addr} {τ : AS} {σ : SL} {pos apos c0 c1 c2 : Pos} {e o a b f : Expr} {m n mo : ME} {x y z s : Str} {i j k l : Nat} {to : TE}
end
end PI
namespace PI
open PySem PySem.Spec PyProof.Rows L2 HotX L2H
section
variable {P : Program} {w : World} {K : PySem.W.Frag} {mg : Str → Option Value} {base : Heap}
end
section
variable {X : Cx}
end
section
variable {G : Gx} {B : Bx} {zs : Addr → Prop} {W : WX} {X : Cx} {c c' : Cfg} {L : List Addr} {τ : AS} {σ : SL} {pos pos' p np : Pos} {e a b : Expr} {es : List Expr} {ma mk : MA} {m n mo : ME} {x : Str} {i : Nat}
end
section
variable {X : Cx} {pins : List (Addr × Obj)} {σ : L2.St} {H : Hp} {s : Shared}
end
section
variable {G : Gx} {B : Bx} {zs : Addr → Prop} {W : WX} {X : Cx} {τ : AS} {pos : Pos} {e c : Expr} {m m2 : MX}
end
end PI
namespace PI
open PySem PySem.Spec PyProof.Rows L2 ClX
structure SetOf (K : PySem.W.Frag) (C : Addr) (f : Str) (p g : Addr) : Prop where
 tak : PySem.W.takerIn K C f = some (some (.ref p))
 ty : PySem.W.typeIn K (.ref p) = some (.type "property")
 rc : ∃ gv rest, PySem.W.recIn K p "property" = some (gv :: .ref g :: rest)
section
variable {X : Cx} {pins : List (Addr × Obj)} {σ : SL} {H : Hp} {s : Shared} {CX : CXT} {k : Nat} {C p g a dx : Addr} {fs : List (Str × V)} {f : Str} {fd : FuncData} {ps : List Str} {sp : Sp} {E : XK}
end
section
variable {G : Gx} {B : Bx} {zs : Addr → Prop} {W : WX} {X : Cx} {τ : AS} {pos pos' : Pos} {e o : Expr} {m mo : ME} {kc k : Nat} {p g : Addr} {f : Str} {fd : FuncData} {ps : List Str} {fn : FN}
end
end PI
namespace PI
open PySem PySem.Spec PyProof.Rows L2 HotX L2H
section
variable {P : Program} {w : World} {K : PySem.W.Frag} {mg : Str → Option Value} {base : Heap}
end
section
variable {G : Gx} {X : Cx} {c : Cfg}
end
section
variable {G : Gx} {B : Bx} {W : WX} {X : Cx} {pos p : Pos} {e : Expr} {es : List Expr} {ma : MA} {x : Str} {f1 f2 : Nat}
end
end PI
namespace PI
open PySem PySem.Spec PyProof.Rows L2 ClX
section
variable {X : Cx}
end
section
variable {G : Gx} {B : Bx} {W : WX} {X : Cx} {tg e e2 e3 : Expr} {ma : MA} {p pos : Pos}
end
abbrev E00 : XK := fun _ _ _ => False
section
variable {X : Cx} {pins : List (Addr × Obj)} {σ : SL} {H : Hp} {s : Shared} {k : Nat} {g : Addr} {fd : FuncData} {ps : List Str} {sp : Sp}
theorem call_sp {us : List Value} {vs : List V} {Q : VK} {E : Value → Shared → Prop} (F : FnOk X.prog X.w X.K X.mg X.base (L2.CX X.prog X.w) k g fd ps sp) (hr : Room k X.A) (hb : Binds X.K fd ps []) (I : Inv X pins σ H s) (r : Vals vs us) (h : sp vs H Q E00) :
  wpAny (model X.prog X.w) X.A (call (.ref g) us) (EP X pins σ Q) E s := by
 have hl2 : (us ++ []).length = ps.length := by
  rw [List.append_nil, ← r.length]
  exact F.len _ _ _ _ h
 have hb2 := hb s us I.kIn hl2
 rw [List.append_nil] at hb2
 refine wpAny_call (codeAny_mono (F.run X.A X.stack s H ⟨us, []⟩ us vs Q E00 hr I.env0 hb2 r h) fun r s' hq => ?_)
 cases r with
 | error e => exact (cx_false hq).elim
 | ok fl =>
  cases fl with
  | ret w => exact I.after hq
  | next => exact False.elim hq
  | brk => exact False.elim hq
  | cont => exact False.elim hq
end
structure WithM (K : PySem.W.Frag) (C fe fx : Addr) : Prop where
 en : PySem.W.findIn K (.ref C) "__enter__" = some (some (.ref fe))
 fe : PySem.W.isFn K (.ref fe) = true
 ex : PySem.W.findIn K (.ref C) "__exit__" = some (some (.ref fx))
 fx : PySem.W.isFn K (.ref fx) = true
section
variable {X : Cx} {C fe fx : Addr} {i ke kx : Nat} {fde fdx : FuncData} {pse psx : List Str} {spE spX : Sp} {te : TE} {tb : TS}
def tWith (C : Addr) (i : Nat) (spE spX : Sp) (te : TE) (tb : TS) : TS := fun D σ H => te σ H fun x H1 => ∃ a dx fs, x = .ref a ∧ H1 a = some (.ins C dx fs) ∧
 spE [.ref a] H1 (fun v H2 => tb { nx := fun σ' H' => spX [.ref a, .non, .non, .non] H' (fun _ H'' => D.nx σ' H'') E00, rt := fun u H' => spX [.ref a, .non, .non, .non] H' (fun _ H'' => D.rt u H'') E00 } (σ.set i (some v)) H2) E00
theorem ps_with {ctx : Expr} {y : Str} {py pos : Pos} {body : List Stmt} (he : PE X ctx te) (c : Cls X.K C) (M : WithM X.K C fe fx) (Fe : FnOk X.prog X.w X.K X.mg X.base (L2.CX X.prog X.w) ke fe fde pse spE) (Fx : FnOk X.prog X.w X.K X.mg X.base (L2.CX X.prog X.w) kx fx fdx psx spX)
  (hre : Room ke X.A) (hrx : Room kx X.A) (hbe : Binds X.K fde pse []) (hbx : Binds X.K fdx psx []) (hN : X.N.Nodup) (hi : X.N[i]? = some y) (hl : Loc X.env.scope y) (hb : PSs X.nox body tb) (hf : X.fn y = true ∨ X.env.scope.names.lookup y = some .local) :
  PS X (.With [⟨ctx, some (.Name y py)⟩] body pos) (tWith C i spE spX te tb) := by
 refine ⟨fun pins s σ H D I h => ?_⟩
 refine PySem.W.kw_execN (thn (he.run pins s σ H _ I h) fun v s1 ⟨x, H1, I1, r1, a, dx, fs, ex, ea, q⟩ => ?_)
 subst ex
 obtain rfl : v = Value.ref a := r1
 obtain ⟨mA, O, _⟩ := ins_get I1.hok ea
 obtain ⟨od, J, _⟩ := O.look
 refine PySem.W.kw_core (b := assign (.Name y py) X.env) (bdy := execs body X.env) I1.kIn J M.en M.fe M.ex M.fx ?_
 refine thn (call_sp Fe hre hbe I1 (us := [.ref a]) (vs := [.ref a]) (.cons rfl .nil) q) fun u s2 ⟨v2, H2, I2, r2, q2⟩ => ?_
 refine wpAny_assign_Name (store_ok I2 hN hi hl r2 (fun s3 I3 => ?_) hf)
 refine wpAny_mono (hb.run pins s3 _ H2 _ (I3.wish _) q2) (fun f s4 hsp => ?_) (fun _ _ z => z)
 have hsp := hsp.unwish
 cases f with
 | next =>
  obtain ⟨σ', H', I4, q4⟩ := hsp
  exact thn (call_sp Fx hrx hbx I4 (us := [.ref a, .none, .none, .none]) (vs := [.ref a, .non, .non, .non]) (.cons rfl (.cons rfl (.cons rfl (.cons rfl .nil)))) q4) fun _ s5 ⟨v5, H5, I5, r5, q5⟩ => ⟨σ', H5, I5, q5⟩
 | ret w =>
  obtain ⟨v4, σ', H', I4, r4, q4⟩ := hsp
  exact thn (call_sp Fx hrx hbx I4 (us := [.ref a, .none, .none, .none]) (vs := [.ref a, .non, .non, .non]) (.cons rfl (.cons rfl (.cons rfl (.cons rfl .nil)))) q4) fun _ s5 ⟨v5, H5, I5, r5, q5⟩ => ⟨v4, σ', H5, I5, r4, q5⟩
 | brk =>
  obtain ⟨_, _, _, q4⟩ := hsp
  exact False.elim q4
 | cont =>
  obtain ⟨_, _, _, q4⟩ := hsp
  exact False.elim q4
end
section
variable {G : Gx} {B : Bx} {zs : Addr → Prop} {W : WX} {X : Cx} {τ : AS} {pos py : Pos} {e : Expr} {mo : ME} {ms : MS} {kc i ke kx : Nat} {fe fx : Addr} {y : Str} {fde fdx : FuncData} {pse psx : List Str} {fnE fnX : FN} {body : List Stmt}
end
section
variable {CX : CXT} {P : Program} {w : World} {K : PySem.W.Frag} {mg : Str → Option Value} {base : Heap} {N No : List Str} {qual : Str} {sc : Scope} {f : Addr} {cd : Value} {A : Around} {outer : List Env} {s0 s : Shared} {H0 H : Hp} {E : XK} {σ σo : SL}
theorem inv_more (I : Inv (cxOf CX P w K mg base N qual sc f cd A outer s0 H0 E) [] σ H s) (hl : σo.length = No.length) (hv : ∀ y ∈ No, ¬ Vis sc y) : Inv (cxOf CX P w K mg base (N ++ No) qual sc f cd A outer s0 H0 E) [] (σ ++ σo) H s := by
 have len : σ.length = N.length := I.len
 refine ⟨⟨I.ok.mod, I.ok.kind, I.ok.glob, I.ok.blt, I.ok.above, I.ok.inj, I.ok.has, I.ok.cab, I.ok.hd, I.ok.frames, I.ok.stk, I.ok.exf, I.ok.bs, I.ok.bsz, I.ok.noex, I.ok.exfs, I.ok.funs, I.ok.frf⟩, I.os, I.bare, I.base, ?_, I.cell, I.free, I.freeC, I.pin, I.hok, ?_⟩
 ·obtain ⟨m, hn, h⟩ := I.loc
  refine ⟨m, hn, fun i x v e1 e2 e3 => ?_⟩
  have e1 : (N ++ No)[i]? = some x := e1
  by_cases hi : i < N.length
  ·rw [List.getElem?_append_left hi] at e1
   rw [List.getElem?_append_left (by omega)] at e2
   exact h i x v e1 e2 e3
  ·rw [List.getElem?_append_right (by omega)] at e1
   exact absurd e3 (hv x (List.mem_of_getElem? e1))
 ·show (σ ++ σo).length = (N ++ No).length
  rw [List.length_append, List.length_append, len, hl]
end
theorem run_ofM {CX : CXT} {P : Program} {w : World} {K : PySem.W.Frag} {mg : Str → Option Value} {base : Heap} {k : Nat} {f : Addr} {name qual : Str} {params : Arguments} {body : List Stmt} {scope : Scope} {dV kV doc pm cdv ct oc : Value} {an od : Option Addr}
  {osl : Array (Option Value)} {N ps No : List Str} {σo : SL} (lk : K.lookup f = some ⟨oc, od, .func (PySem.W.fnOf name qual params body scope dV kV doc pm an cdv ct), osl⟩) (hcd : PySem.W.codeIn K cdv qual = true) (S : FnScope N ps scope) (hlo : σo.length = No.length) (hvo : ∀ y ∈ No, ¬ Vis scope y)
  {A : Around} {outer : List Env} {s : Shared} {H : Hp} {args : Args} {us : List Value} {vs : List V} {Q : VK} {E : XK} (hr : Room (k + 1) A) (e0 : Env0 P w K mg base A outer s H) (hb : BindsTo s (PySem.W.fnOf name qual params body scope dV kV doc pm an cdv ct) args (ps.zip us)) (r : Vals vs us) (hl : vs.length = ps.length)
  (hbody : Room k (A.deeper (envOfC qual scope s.heap.objs.size f cdv)) → ∃ t, PSs (cxOf CX P w K mg base (N ++ No) qual scope f cdv A outer s H E) body t ∧ t { nx := fun _ H' => Q .non H', rt := Q } (L2.start N vs ++ σo) H) :
  codeAny (model P w) A (.call (.ref f) args) (CR CX outer P w H s Q E) s := by
 have KX : K.In s.heap := e0.mod.kin.keeps fun b o e => (e0.bs b o e).1
 have lim : s.heap.NoLimit := e0.mod.nolimit.keeps fun b o e => (e0.bs b o e).1
 have hkind : ∀ y ∈ ps.zip us, scope.names.lookup y.1 = some .local ∨ (scope.names.lookup y.1 = some .cell ∧ ((cellsFrom (s.heap.objs.size + 1) scope.names []).lookup y.1).isSome = true) := fun ⟨n, v⟩ hy => by
  rcases S.par n (List.of_mem_zip hy).1 with q | q
  ·exact .inl q
  ·exact .inr ⟨q, PySem.W.cellsFrom_some _ _ _ (.inl q)⟩
 refine codeAny_call_function hr.depth (KX _ _ lk) rfl S.co S.gen rfl (PySem.W.codeRec_of KX hcd) (hb _ _ _ _ ?_)
 refine wpAny_newFunctionEnv_cells S.kind hkind fun env he s1 x => ?_
 subst he
 refine ⟨lim.keeps x.toInCall.keep, codeAny_func ?_⟩
 obtain ⟨t, ht, hq⟩ := hbody (hr.deeper _)
 have I0 : Inv (cxOf CX P w K mg base N qual scope f cdv A outer s H E) [] (L2.start N vs) H s1 := inv_start S hr.hd e0 hl r x
 have I : Inv (cxOf CX P w K mg base (N ++ No) qual scope f cdv A outer s H E) [] (L2.start N vs ++ σo) H s1 := inv_more I0 hlo hvo
 refine wpAny_mono (ht.run [] s1 (L2.start N vs ++ σo) H _ I hq) (fun fl s' hs => ?_) fun e s' hs => hs
 have fin : ∀ {σ' : L2.St} {H' : Hp} {v : V} {u : Value}, Inv (cxOf CX P w K mg base (N ++ No) qual scope f cdv A outer s H E) [] σ' H' s' → L2.RelV v u → Q v H' → CE outer P w H s Q u s' :=
  fun {σ' H' v u} J rv q => ⟨v, H', J.os, J.bare, J.base, J.hok, rv, q⟩
 cases fl with
 | ret u =>
  obtain ⟨v, σ', H', J, rv, q⟩ := hs
  exact fin J rv q
 | next =>
  obtain ⟨σ', H', J, q⟩ := hs
  exact fin (v := V.non) (u := Value.none) J rfl q
 | brk =>
  obtain ⟨_, _, _, q⟩ := hs
  exact False.elim q
 | cont =>
  obtain ⟨_, _, _, q⟩ := hs
  exact False.elim q
structure LamS1 (sc scope : Scope) (rx : Str) : Prop where
 kind : scope.kind = .function
 co : scope.isCoroutine = false
 gen : scope.isGenerator = false
 par : scope.names.lookup rx = some .local
 own : ∀ y ∈ scope.names, y.2 ≠ .cell ∧ (y.2 = .local → y.1 = rx)
 free : ∀ y ∈ scope.names, y.2 = .free → sc.names.lookup y.1 = some .cell ∨ sc.names.lookup y.1 = some .free
def lamS1B (sc scope : Scope) (rx : Str) : Bool :=
 decide (scope.kind = .function) && !scope.isCoroutine && !scope.isGenerator && decide (scope.names.lookup rx = some .local) && scope.names.all fun y => !decide (y.2 = .cell) && (!decide (y.2 = .local) || decide (y.1 = rx)) && (!decide (y.2 = .free) || decide (sc.names.lookup y.1 = some .cell) || decide (sc.names.lookup y.1 = some .free))
theorem lamS1_by {sc scope : Scope} {rx : Str} (h : lamS1B sc scope rx = true) : LamS1 sc scope rx := by
 unfold lamS1B at h
 simp only [Bool.and_eq_true, Bool.or_eq_true, Bool.not_eq_true', decide_eq_true_eq, decide_eq_false_iff_not, List.all_eq_true] at h
 obtain ⟨⟨⟨⟨h1, h2⟩, h3⟩, h5⟩, h4⟩ := h
 refine ⟨h1, h2, h3, h5, fun y hy => ⟨(h4 y hy).1.1, fun e => (h4 y hy).1.2.resolve_left fun z => z e⟩, fun y hy e => ?_⟩
 rcases (h4 y hy).2 with (z | z) | z
 ·exact absurd e z
 ·exact .inl z
 ·exact .inr z
theorem LamS1.has {X : Cx} {scope : Scope} {rx : Str} (L : LamS1 X.env.scope scope rx) (ok : X.Ok) : ∀ y ∈ scope.names, y.2 = .free → ∃ c, X.env.cells.lookup y.1 = some c := fun y hy e => by
 rcases L.free y hy e with k | k
 ·exact ok.has _ (.inl k)
 ·exact ok.has _ (.inr k)
def lamCx1 (X : Cx) (A : Around) (outer : List Env) (s : Shared) (H : Hp) (E : XK) (scope : Scope) (f c' : Addr) (rx : Str) : Cx where
 prog := X.prog
 w := X.w
 K := X.K
 mg := X.mg
 base := X.base
 A := A.deeper (LamX.lamEnv X scope s.heap.objs.size f c')
 N := X.N ++ [rx]
 s_0 := s
 H_0 := H
 env := LamX.lamEnv X scope s.heap.objs.size f c'
 outer := outer
 stack := LamX.lamEnv X scope s.heap.objs.size f c' :: outer
 ex := []
 fn := fun _ => false
 calm := true
 pn := []
 xe := fun e s' => wpAny (model X.prog X.w) (A.deeper (LamX.lamEnv X scope s.heap.objs.size f c')) (leaving (LamX.lamEnv X scope s.heap.objs.size f c') e) (fun _ s'' => L2.CX X.prog X.w outer H s E e s'') (fun e' s'' => L2.CX X.prog X.w outer H s E e' s'') s'
section
variable {X : Cx} {pins : List (Addr × Obj)} {σ : L2.St} {H HZ : Hp} {s s1 : Shared}
theorem lam_start1 {A : Around} {outer : List Env} {E : XK} {scope : Scope} {f c' : Addr} {h₁ : Heap} {tk : Nat} {rx : Str} {vb : V} {ub : Value} (I : Inv X pins σ H s) (L : LamS1 X.env.scope scope rx) (hrx : rx ∉ X.N) (e0 : Env0 X.prog X.w X.K X.mg X.base A outer s1 HZ) (hd : A.handled = none)
  (un : Un (frs X.stack) [] H HZ s.heap s1.heap) (rb : RelV vb ub) (hns : h₁.Ns s1.heap.objs.size fun y => ([(rx, ub)] : List (Str × Value)).reverse.lookup y) (kp : ∀ b o, s1.heap.get? b = some o → h₁.get? b = some o) :
  Inv (lamCx1 X A outer s1 HZ E scope f c' rx) [] (σ ++ [some vb]) HZ { s1 with heap := h₁, toks := tk } := by
 have hfree := L.has I.ok
 have cm : ∀ {y c}, (cloFrom X.env.cells scope.names []).lookup y = some c → X.env.cells.lookup y = some c := fun {y c} e => by
  rcases cloFrom_mem (PySem.mem_of_lookup e) with hm | ⟨h1, h2⟩
  ·cases hm
  ·obtain ⟨c1, hc⟩ := hfree _ h1 rfl
   have hc : X.env.cells.lookup y = some c1 := hc
   have e2 : c = c1 := by
    rw [h2, hc] <;> rfl
   rw [e2]
   exact hc
 have look : ∀ {y}, scope.names.lookup y = some .free → ∃ c, (cloFrom X.env.cells scope.names []).lookup y = some c := fun {y} hl => by
  have hy : (y, NameKind.free) ∈ scope.names := PySem.mem_of_lookup hl
  exact mem_lookup (cloFrom_has (cells := X.env.cells) (acc := []) hy)
 have cellK : ∀ {c : Addr} {v : Option Value}, H c = none → s.heap.IsCell c v → h₁.IsCell c v := fun {c v} n ⟨o, ho, hd⟩ => by
  obtain ⟨sl, q⟩ := un.any ho n (by simp)
  exact ⟨_, kp _ _ q, hd⟩
 have noA : ∀ b : Addr, b ∉ (lamCx1 X A outer s1 HZ E scope f c' rx).ex := fun b z => absurd (show b ∈ ([] : List Addr) from z) (by simp)
 have slen : σ.length = X.N.length := I.len
 refine ⟨⟨e0.mod, L.kind, rfl, rfl, Nat.le_refl _, fun y z c e1 e2 => I.ok.inj y z c (cm e1) (cm e2), fun y hy => ?_, fun y c z _ => ?_, fun _ => hd, Around.frames_deeper e0.frames, .inr ⟨rfl, rfl⟩, fun b z => absurd z (noA b), e0.bs, e0.bsz, fun b _ _ => noA b,
   fun b z => absurd z (noA b), e0.funs, e0.frf⟩,
  rfl, e0.bare, Un.kept kp, ⟨_, hns, fun i y v e1 e2 e3 => ?_⟩, fun y c e => ?_, e0.hok.fresh (Nat.le_refl _), fun y c e => ?_, fun q hq => absurd (show q ∈ ([] : List (Addr × Obj)) ++ [] from hq) (by simp), e0.hok.kept kp, ?_⟩
 ·have hy : scope.names.lookup y = some .cell ∨ scope.names.lookup y = some .free := hy
  rcases hy with hy | hy
  ·exact absurd rfl (L.own _ (PySem.mem_of_lookup hy)).1
  ·exact look hy
 ·have z : false = true := z
  cases z
 ·have e3 : Vis scope y := e3
  have e1 : (X.N ++ [rx])[i]? = some y := e1
  by_cases hi : i < X.N.length
  ·rw [List.getElem?_append_left hi] at e1
   rw [List.getElem?_append_left (by omega)] at e2
   have ny : y ≠ rx := fun z => hrx (z ▸ List.mem_of_getElem? e1)
   rcases e3 with k | k | k
   ·exact absurd ((L.own _ (PySem.mem_of_lookup k)).2 rfl) ny
   ·exact absurd rfl (L.own _ (PySem.mem_of_lookup k)).1
   ·obtain ⟨m, hn, hl⟩ := I.loc
    have hvis : Vis X.env.scope y := (L.free _ (PySem.mem_of_lookup k) rfl).elim (fun k => .inr (.inl k)) (fun k => .inr (.inr k))
    obtain ⟨w', r, q⟩ := hl i y v e1 e2 hvis
    obtain ⟨c2, h2⟩ := look k
    refine ⟨w', r, .inr ⟨.inr k, c2, h2, ?_⟩⟩
    have c1 := cm h2
    rcases q with ⟨k', _⟩ | ⟨_, c3, e', z⟩
    ·have k' : X.env.scope.names.lookup y = some .local := k'
     rcases L.free _ (PySem.mem_of_lookup k) rfl with k2 | k2 <;> rw [show X.env.scope.names.lookup y = _ from k2] at k' <;> cases k'
    ·rw [c1] at e'
     cases e'
     exact cellK (I.freeC y _ c1) z
  ·have hi2 : i < (X.N ++ [rx]).length := (List.getElem?_eq_some_iff.mp e1).1
   rw [List.length_append, List.length_singleton] at hi2
   have ei : i = X.N.length := by omega
   subst ei
   rw [List.getElem?_append_right (Nat.le_refl _)] at e1
   rw [List.getElem?_append_right (by omega), slen] at e2
   simp at e1 e2
   subst e1 e2
   refine ⟨ub, rb, .inl ⟨L.par, ?_⟩⟩
   show List.lookup rx [(rx, ub)] = _
   simp
 ·obtain ⟨w', z⟩ := I.cell y c (cm e)
  exact ⟨w', cellK (I.freeC y c (cm e)) z⟩
 ·obtain ⟨v, o, ho, hd⟩ := I.cell y c (cm e)
  exact un.free c o ho (I.freeC y c (cm e)) (by simp)
 ·show (σ ++ [some vb]).length = (X.N ++ [rx]).length
  rw [List.length_append, List.length_append, slen]
  rfl
theorem pe_act1 {CXg : CXT} {Eg : XK} {Ng : List Str} {qg : Str} {sg : Scope} {g f c' : Addr} {cdg pm ctv : Value} {params : Arguments} {body : Expr} {scope : Scope} {k i j : Nat} {a b rx q : Str} {tb : TE} {p1 p2 p3 : Pos}
  (I : Inv X pins σ H s) (L : LamS1 X.env.scope scope rx) (hrx : rx ∉ X.N) (hq : q = X.env.qual ++ "<lambda>") (hf : s.heap.get? f = some (PySem.W.kla_obj "<lambda>" q params body scope (cloFrom X.env.cells scope.names []) pm c' ctv)) (hfn : H f = none) (hfr : f ∉ frs X.stack)
  (hbind : ∀ u, bindArgs (PySem.W.kla_fn "<lambda>" q params body scope (cloFrom X.env.cells scope.names []) pm (.ref c') ctv) ⟨[u], []⟩ = pure [(rx, u)])
  (hr : Room (k + 1) (X.A.deeper (envOfC qg sg s.heap.objs.size g cdg)))
  (hbody : ∀ (A : Around) (outer : List Env) (s : Shared) (H : Hp), Room k (A.deeper (LamX.lamEnv X scope s.heap.objs.size f c')) → PE (lamCx1 X A outer s H E00 scope f c' rx) body tb)
  (hN : Ng[i]? = some a) (hv : Vis sg a) (hN2 : Ng[j]? = some b) (hv2 : Vis sg b) (hd : (a == ("__debug__" : Str)) = false := by decide) (hcd : (a == ("__classdict__" : Str)) = false := by decide) (hd2 : (b == ("__debug__" : Str)) = false := by decide) (hcd2 : (b == ("__classdict__" : Str)) = false := by decide) :
  PE ((cxOf CXg X.prog X.w X.K X.mg X.base Ng qg sg g cdg X.A X.stack s H Eg).nox) (.Call (.Name a p1) [.Name b p3] [] p2)
   (fun σZ HZ Q => σZ[i]? = some (some (.ref f)) ∧ HZ c' = some (LamX.CodeO c' q) ∧ ∃ vb, σZ[j]? = some (some vb) ∧ tb (σ ++ [some vb]) HZ Q) := by
 subst hq
 refine ⟨fun pinsZ sZ σZ HZ Q IZ h => ?_⟩
 obtain ⟨hs, hc, vb, hsb, ht⟩ := h
 refine wpAny_Call_Name_kw (thn ((pe_var (pos := p1) (i := i) hN hv hd hcd).run pinsZ sZ σZ HZ (fun v H1 => v = .ref f ∧ H1 = HZ) IZ ⟨.ref f, hs, rfl, rfl⟩) fun u s1 ⟨v, H1, I1, r1, q1⟩ => ?_)
 obtain ⟨ev, eH⟩ := q1
 subst ev
 rw [eH] at I1
 obtain rfl : u = Value.ref f := r1
 have at1 : ∀ {sa : Shared}, Inv ((cxOf CXg X.prog X.w X.K X.mg X.base Ng qg sg g cdg X.A X.stack s H Eg).nox) pinsZ σZ HZ sa → sa.heap.get? f = some (PySem.W.kla_obj "<lambda>" (X.env.qual ++ "<lambda>") params body scope (cloFrom X.env.cells scope.names []) pm c' ctv) := fun {sa} Ia => Ia.base.keep f _ hf hfn hfr (fun z => nomatch (show f ∈ ([] : List Addr) from z))
 refine PySem.W.callWith_F (first := []) ⟨_, _, _, _, at1 I1⟩ ?_ (by rfl) (by rfl)
 show wpAny _ _ (spliced ((false, eval (.Name b p3) _) :: backTo p2 (starEach [] _))) _ _ s1
 refine Calls.spliced_cons (thn ((pe_var (pos := p3) (i := j) hN2 hv2 hd2 hcd2).run pinsZ s1 σZ HZ (fun v H1 => v = vb ∧ H1 = HZ) I1 ⟨vb, hsb, rfl, rfl⟩) fun ub s2 ⟨v2, H2, I2, r2, q2⟩ => ?_)
 obtain ⟨ev2, eH2⟩ := q2
 subst ev2
 rw [eH2] at I2
 refine Calls.spliced_nil ⟨⟨_, _, _, _, at1 I2⟩, ?_⟩
 show wpAny _ _ (call (.ref f) [ub]) _ _ s2
 have of2 := at1 I2
 have un : Un (frs X.stack) [] H HZ s.heap s2.heap := I2.base
 obtain ⟨⟨oc, vs, t, hoc, hdc, hvc⟩, _, _⟩ := I2.hok c' _ hc
 have rc : codeAny (model X.prog X.w) (X.A.deeper (envOfC qg sg s.heap.objs.size g cdg)) (.call (.ref f) ⟨[ub], []⟩) (CR (L2.CX X.prog X.w) (envOfC qg sg s.heap.objs.size g cdg :: X.stack) X.prog X.w HZ s2 Q E00) s2 := by
  refine PySem.W.kla_callFunE hr.depth of2 rfl L.co L.gen rfl ⟨c', oc, vs, t, rfl, hoc, hdc, hvc⟩ ?_
  rw [hbind]
  refine wpAny_pure (wpAny_newFunctionEnv (fun y hy => (L.own y hy).1) (fun y hy => ?_) (fun h₁ hns hsb => ⟨I2.nolimit.fresh _ hsb, ?_⟩) L.kind)
  ·rw [List.mem_singleton.mp hy]
   exact L.par
  show codeAny _ _ (.expr body (LamX.lamEnv X scope s2.heap.objs.size f c')) _ _
  have kp : ∀ b o, s2.heap.get? b = some o → h₁.get? b = some o := fun b o e => hsb.extBut b o (Nat.ne_of_lt (Heap.lt_size e)) (Heap.get?_push_of_some _ e)
  have J : Inv (lamCx1 X (X.A.deeper (envOfC qg sg s.heap.objs.size g cdg)) (envOfC qg sg s.heap.objs.size g cdg :: X.stack) s2 HZ E00 scope f c' rx) [] (σ ++ [some v2]) HZ { s2 with heap := h₁, toks := s2.toks + ([(rx, ub)] : List (Str × Value)).length } :=
   lam_start1 I L hrx I2.env0 hr.hd un r2 hns kp
  refine PySem.W.kla_codeExpr (wpAny_mono ((hbody _ _ s2 HZ (hr.deeper _)).run [] _ _ HZ Q J ht) (fun v s' hq => ?_) fun e s' hq => hq)
  obtain ⟨w', H', J', rv, q⟩ := hq
  exact ⟨w', H', J'.os, J'.bare, J'.base, J'.hok, rv, q⟩
 refine wpAny_call (codeAny_mono rc fun r s' hq => ?_)
 cases r with
 | error e =>
  obtain ⟨_, _, _, _, _, _, _, _, _, _, _, _, z⟩ := hq
  exact z.elim
 | ok fl =>
  cases fl with
  | ret u => exact I2.after hq
  | next => exact False.elim hq
  | brk => exact False.elim hq
  | cont => exact False.elim hq
end
section
variable {G : Gx} {B : Bx} {c c' : Cfg} {L : List Addr} {τ : AS} {σ : SL}
theorem code_mv {a : Addr} {q : Str} (N : Nxt G c c') (r : Rel G c) (h : c.H a = some (LamX.CodeO a q)) : c'.H a = some (LamX.CodeO a q) :=
  N.mv.keep a _ h rfl ⟨fun n o e z => notHid_ro (r.obj n o e) (by rw [z]; exact h) rfl, fun z => by
    obtain ⟨_, o, e, ho⟩ := r.zok a z
    rw [h] at e
    cases e
    cases ho⟩
theorem rs_app {xs : List AV} {us : List V} (x : RVs G c xs us) (s : RS G B c L τ σ) : RS G B c L (xs.map some ++ τ) (us.map some ++ σ) := by
 induction us generalizing xs with
 | nil => cases x; exact s
 | cons u us ih =>
  cases x with
  | cons x xr => exact RS.cons (l := []) (.val x) (ih xr)
theorem rs_snoc {v : AV} {u : V} (x : RV G c v u) : ∀ {L : List Addr} {τ : AS} {σ : SL}, RS G B c L τ σ → RS G B c L (τ ++ [some v]) (σ ++ [some u]) := by
 intro L τ σ s
 induction s with
 | nil => exact RS.cons (l := []) (.val x) .nil
 | cons a _ ih => exact RS.cons a ih
end
def fInB (kB : Nat) (mctx ml : ME) (cE cX : FN) (τ : AS) (v1 : AV) (zs : List AV) (h : AH) : Res AV := match mctx (some v1 :: none :: (zs.map some ++ (none :: τ))) h with
  | .ok v h3 => match fldsOf v h3 with
    | some (k', _) => if k' = kB then (match cE [v] h3 with
      | .ok w h4 => match ml (τ ++ [some w]) h4 with
        | .ok u h5 => match cX [v, .non, .non, .non] h5 with
          | .ok _ h6 => .ok u h6
          | _ => .stuck
        | _ => .stuck
      | _ => .stuck) else .stuck
    | none => .stuck
  | _ => .stuck
def fInB2 (kB nk np : Nat) (pk : List Nat) (dws : List AV) (mctx ml : ME) (cE cX : FN) (τ : AS) (v1 : AV) : List AV → AH → Res AV := fun ws h => if ws.length = nk ∧ (pickL pk (ws ++ dws)).length + 2 = np then fInB kB mctx ml cE cX τ v1 (pickL pk (ws ++ dws)) h else .stuck
def fInB1 (kB nk np : Nat) (pk : List Nat) (dws : List AV) (mctx ml : ME) (cE cX : FN) (mk : MA) (τ : AS) : AV → AH → Res AV := fun v1 h1 => (mk τ h1).bind (fInB2 kB nk np pk dws mctx ml cE cX τ v1)
def mInB (kB nk np : Nat) (pk : List Nat) (dws : List AV) (mctx : ME) (cE cX : FN) (ml me : ME) (mk : MA) : ME := fun τ h => (me τ h).bind (fInB1 kB nk np pk dws mctx ml cE cX mk τ)
@[simp] theorem mInB_ev {kB nk np : Nat} {pk : List Nat} {dws : List AV} {mctx ml me : ME} {cE cX : FN} {mk : MA} {τ : AS} {h : AH} : mInB kB nk np pk dws mctx cE cX ml me mk τ h = (me τ h).bind (fInB1 kB nk np pk dws mctx ml cE cX mk τ) := rfl
structure InbOk (P : Program) (w : World) (K : PySem.W.Frag) (G : Gx) (mg : Str → Option Value) (base : Heap) (k kB : Nat) (g : Addr) (fd : FuncData) (Ng ps : List Str) (fn bn : Str) (j : Nat) (mctx : ME) (cE cX : FN) : Prop where
 ex : ∃ (name qual : Str) (params : Arguments) (body : List Stmt) (sg : Scope) (dV kV doc pm cdv ct oc : Value) (an od : Option Addr) (osl : Array (Option Value)) (ctx : Expr) (p1 p2 p3 py pr pw : Pos) (fe fx : Addr) (ke kx : Nat) (fde fdx : FuncData) (pse psx : List Str) (fnE fnX : FN),
  fd = PySem.W.fnOf name qual params body sg dV kV doc pm an cdv ct ∧ K.lookup g = some ⟨oc, od, .func (PySem.W.fnOf name qual params body sg dV kV doc pm an cdv ct), osl⟩ ∧ PySem.W.codeIn K cdv qual = true ∧ FnScope Ng ps sg ∧
  body = [.With [⟨ctx, some (.Name bn py)⟩] [.Return (some (.Call (.Name fn p1) [.Name bn p3] [] p2)) pr] pw] ∧
  (∀ (B : Bx) (No : List Str) (A : Around) (outer : List Env) (s : Shared) (H : Hp) (E : XK), Room k (A.deeper (envOfC qual sg s.heap.objs.size g cdv)) → IE G B W0 (cxOf (L2.CX P w) P w K mg base (Ng ++ No) qual sg g cdv A outer s H E) ctx mctx) ∧
  Cls K (G.ca kB) ∧ WithM K (G.ca kB) fe fx ∧ FnOk P w K mg base (L2.CX P w) ke fe fde pse (spF G 1 fnE) ∧ FnOk P w K mg base (L2.CX P w) kx fx fdx psx (spF G 4 fnX) ∧ ke ≤ k ∧ kx ≤ k ∧ Binds K fde pse [] ∧ Binds K fdx psx [] ∧ cE = chk 1 fnE ∧ cX = chk 4 fnX ∧
  Ng[1]? = some fn ∧ Vis sg fn ∧ Ng[j]? = some bn ∧ Loc sg bn ∧ Vis sg bn ∧ (fn == ("__debug__" : Str)) = false ∧ (fn == ("__classdict__" : Str)) = false ∧ (bn == ("__debug__" : Str)) = false ∧ (bn == ("__classdict__" : Str)) = false ∧ Ng.length = ps.length + 1 ∧ ps.length = j ∧
  (∀ y, Vis sg y → y ∈ Ng)
section
variable {G : Gx} {B : Bx} {W : WX} {X : Cx} {g : Addr} {fd : FuncData} {Ng ps ks : List Str} {fn bn x rx q : Str} {k kB j : Nat} {pk : List Nat} {dws : List AV} {mctx ml me : ME} {cE cX : FN} {mk : MA} {e body : Expr} {params : Arguments} {scope : Scope} {lpos p pos : Pos} {kws : List Keyword} {cB PB : Addr}
theorem ie_inb (hK : X.K = G.K) (F : InbOk X.prog X.w X.K G X.mg X.base k kB g fd Ng ps fn bn j mctx cE cX) (hr : Room (k + 3) X.A) (hm : X.mg x = some (.ref g)) (hk : PySem.W.keepIn X.K (.ref g) = true) (hb : KBD G X.K fd ps 2 ks (0 :: (0 :: pk.map (· + 1)).map (· + 1)) dws) (he : IE G B W X e me) (hkw : IK G B W X kws mk)
  (TB : LamX.TabB X.base X.mg cB PB) (hcode : X.env.code = .ref cB) (hPB : (PB, q) ∈ G.tb) (hu : ∀ q', (PB, q') ∈ G.tb → q' = q) (hq : q = X.env.qual ++ "<lambda>") (hne : q ≠ Str.empty)
  (SL : LamS1 X.env.scope scope rx) (hrx : rx ∉ X.N) (hnd : (Ng ++ X.N).Nodup) (hdef : defaultsOf params X.env = ([], [])) (hbind : ∀ (q : Str) (clos : List (Str × Addr)) (pm cv ctv u : Value), bindArgs (PySem.W.kla_fn "<lambda>" q params body scope clos pm cv ctv) ⟨[u], []⟩ = pure [(rx, u)])
  (hbody : ∀ (A : Around) (outer : List Env) (s : Shared) (H : Hp) (f c' : Addr), Room k (A.deeper (LamX.lamEnv X scope s.heap.objs.size f c')) → IE G B W0 (lamCx1 X A outer s H E00 scope f c' rx) body ml)
  (hg : Gl X x := by rfl) (hall : (backToKw pos (keywordEach kws X.env)).all (·.1.isSome) = true := by rfl) (hks : (backToKw pos (keywordEach kws X.env)).filterMap (·.1) = ks := by rfl) (hdb : (x == ("__debug__" : Str)) = false := by decide)
  (hst : starEach (e :: [.Lambda params body scope lpos]) X.env = (false, eval e X.env) :: starEach [.Lambda params body scope lpos] X.env := by rfl) (hpl : ((backTo pos (starEach (e :: [.Lambda params body scope lpos]) X.env)).any (·.1) || (backToKw pos (keywordEach kws X.env)).any (·.1.isNone)) = false := by rfl) :
  IE G B W X (.Call (.Name x p) [e, .Lambda params body scope lpos] kws pos) (mInB kB ks.length j pk dws mctx cE cX ml me mk) := by
 refine ⟨fun pins s σ H Q I ⟨c, τ, L, eH, rl, s', q0⟩ => ?_⟩
 obtain ⟨name, qual, params', body', sg, dV, kV, doc, pm', cdv, ct, oc, an, od, osl, ctx, p1, p2, p3, py, pr, pw, fe, fx, ke, kx, fde, fdx, pse, psx, fnE, fnX, efd, lk, hcg, Sg, hbd, hctx, cl, M, Fe, Fx, hke, hkx, hbe, hbx, ecE, ecX, hN1, hv1, hNj, hlj, hvj, d1, d2, d3, d4, lNg, lps, hvis⟩ := F.ex
 obtain ⟨dvs, ds, rd, gd, kb⟩ := hb.ex
 refine wpAny_Call_Name_kw (ld_glob I hg hm ?_ hdb)
 refine PySem.W.callWith_KW (h₀ := X.base) I.ok.mod.kin hk hall ?_ hpl hst
 rw [hst]
 show wpAny _ _ (spliced ((false, eval e X.env) :: backTo pos (starEach [.Lambda params body scope lpos] X.env))) _ _ s
 refine Calls.spliced_cons (thn (he.run pins s σ H _ I ⟨c, τ, L, eH, rl, s', Post.bind (R := RV G) q0⟩) fun u1 s1 ⟨v1, H1, I1, r1, c1, a1, e1, N1, x1, qa⟩ => ?_)
 subst e1
 show wpAny _ _ (spliced ((false, eval (.Lambda params body scope lpos) X.env) :: backTo pos (starEach [] X.env))) _ _ s1
 refine Calls.spliced_cons (lam_mk N1.rel I1 TB hcode hPB hu hq hne hdef (SL.has I1.ok) fun f c' pm ctv c2 s2 N2 eh2 I2 atf nf nfr hco => Calls.spliced_nil ?_)
 have Ns2 : ∀ a ∈ X.fs, a ∈ frs X.stack := fun a ha => by
  rcases I2.ok.stk with e | ⟨e, _⟩
  ·rw [e]; exact ha
  ·rw [e]
   have ha : a ∈ X.outer.filterMap (·.frame) := ha
   show a ∈ (X.env :: X.outer).filterMap (·.frame)
   rw [List.filterMap_cons]
   split
   ·exact ha
   ·exact List.mem_cons_of_mem _ ha
 have nl : f ≠ X.env.locals := fun z => by
  obtain ⟨m, ⟨o, es, ep, ho, hd', _⟩, _⟩ := I2.loc
  rw [← z, atf] at ho
  cases ho
  cases hd'
 have I2p : Inv X ((f, PySem.W.kla_obj "<lambda>" q params body scope (cloFrom X.env.cells scope.names []) pm c' ctv) :: pins) σ c2.H s2 := I2.pins_of fun p hp => by
  rcases List.mem_cons.mp hp with rfl | hp
  ·exact ⟨atf, nf, nl, fun z => nfr (Ns2 _ z), fun v z => by cases z⟩
  ·exact I2.pin p (List.mem_append_right _ hp)
 have qa2 : Post G (RV G) c2 (fun k d H' => W k d σ H') Q ((mk τ c2.h).bind (fInB2 kB ks.length j pk dws mctx ml cE cX τ a1)) := by
  rw [eh2]
  exact Post.trans N2 qa
 refine thn (hkw.run pos _ s2 σ c2.H _ I2p ⟨c2, τ, L, rfl, N2.rel, (s'.nxt N1).nxt N2, Post.bind (R := RVs G) qa2⟩) fun ws s3 ⟨zs, H3, I3p, r3, c3, ys, e3, N3, x3, qb⟩ => ⟨I3p.kIn, ?_⟩
 subst e3
 rw [hks]
 have P := I3p.pin (f, PySem.W.kla_obj "<lambda>" q params body scope (cloFrom X.env.cells scope.names []) pm c' ctv) (List.mem_append_right _ List.mem_cons_self)
 have I3 : Inv X pins σ c3.H s3 := I3p.pins_of fun p hp => I3p.pin p (List.mem_append_right _ (List.mem_cons_of_mem _ hp))
 have hco3 := code_mv N3 N2.rel hco
 have x1 := x1.mono (N2.mv.trans N3.mv)
 unfold fInB2 at qb
 by_cases hl : ys.length = ks.length ∧ (pickL pk (ys ++ dws)).length + 2 = j
 case neg => rw [if_neg hl] at qb; exact qb.elim
 rw [if_pos hl] at qb
 have s3' := ((s'.nxt N1).nxt N2).nxt N3
 have xz := pick_rvs (x3.append (gd c3)) pk
 have rz := kb.rel (vs := [v1, .ref f]) (us := [u1, .ref f]) (.cons r1 (.cons rfl .nil)) r3
 have pv : ∀ {α : Type} (a b : α) (l : List α), pickL (0 :: (0 :: pk.map (· + 1)).map (· + 1)) (a :: b :: l) = a :: b :: pickL pk l := fun a b l => by rw [pick_succ, pick_succ]
 have rz : Vals (v1 :: .ref f :: pickL pk (zs ++ dvs)) (u1 :: .ref f :: pickL pk (ws ++ ds)) := by
  have := rz
  simp only [List.cons_append, List.nil_append, pv] at this
  exact this
 have bt := kb.to s3 [u1, .ref f] ws I3.kIn rfl (by rw [← r3.length, ← x3.length]; exact hl.1)
 have bt : BindsTo s3 fd ⟨[u1, .ref f], ks.zip ws⟩ (ps.zip (u1 :: .ref f :: pickL pk (ws ++ ds))) := by
  have := bt
  simp only [List.cons_append, List.nil_append, pv] at this
  exact this
 subst efd
 have lv : (v1 :: V.ref f :: pickL pk (zs ++ dvs)).length = ps.length := by
  rw [List.length_cons, List.length_cons, ← xz.length, lps]
  exact hl.2
 have hvo : ∀ y ∈ X.N, ¬ Vis sg y := fun y hy hv => (List.nodup_append.mp hnd).2.2 y (hvis y hv) y hy rfl
 have n1 : (Ng ++ X.N)[1]? = some fn := by rw [List.getElem?_append_left (List.getElem?_eq_some_iff.mp hN1).1]; exact hN1
 have nj : (Ng ++ X.N)[j]? = some bn := by rw [List.getElem?_append_left (List.getElem?_eq_some_iff.mp hNj).1]; exact hNj
 have est : L2.start Ng (v1 :: .ref f :: pickL pk (zs ++ dvs)) ++ σ = some v1 :: some (.ref f) :: ((pickL pk (zs ++ dvs)).map some ++ (none :: σ)) := by
  unfold L2.start
  rw [lv, lNg, show ps.length + 1 - ps.length = 1 from by omega]
  simp
 have lx := xz.length
 refine wpAny_call (codeAny_mono (run_ofM (k := k + 1) (No := X.N) (σo := σ) (Q := Q) (E := E00) (CX := L2.CX X.prog X.w) lk hcg Sg I3.len hvo (hr.mono (by omega)) I3.env0 bt rz lv fun hr2 => ?_) fun r s' hq => ?_)
 ·refine ⟨_, by
   rw [hbd]
   exact pss_one (ps_with (hctx B X.N X.A X.stack s3 c3.H E00 (hr2.mono (by omega))) cl M Fe Fx (hr2.mono (by omega)) (hr2.mono (by omega)) hbe hbx hnd nj hlj (pss_one (ps_ret (pe_act1 (k := k) (i := 1) (j := j) (tb := tI G B W0 ml) I3 SL hrx hq P.1 P.2.1 nfr (hbind _ _ _ _ _) hr2 (fun A outer s H hr4 => hbody A outer s H f c' hr4) n1 hv1 nj hvj d1 d2 d3 d4))) (.inl rfl)), ?_⟩
  rw [est]
  refine ⟨c3, some a1 :: none :: ((pickL pk (ys ++ dws)).map some ++ (none :: τ)), L, rfl, N3.rel, RS.cons (l := []) (.val x1) (RS.cons (l := []) .skip (rs_app xz (RS.cons (l := []) .skip s3'))), ?_⟩
  revert qb
  unfold fInB
  cases hc : mctx (some a1 :: none :: ((pickL pk (ys ++ dws)).map some ++ (none :: τ))) c3.h with
  | exc _ _ _ => exact fun qb => qb.elim
  | stuck => exact fun qb => qb.elim
  | ok v h3 =>
   intro qb c4 u4 N4 e4 x4
   simp only at qb
   subst e4
   cases q5 : fldsOf v c4.h with
   | none => rw [q5] at qb; exact qb.elim
   | some kf =>
    obtain ⟨k', fs⟩ := kf
    rw [q5] at qb
    simp only at qb
    by_cases hkk : k' = kB
    case neg => rw [if_neg hkk] at qb; exact qb.elim
    rw [if_pos hkk] at qb
    subst hkk
    obtain ⟨aa, dx, uf, rfl, ep, xf⟩ := inst_at N4.rel x4 q5
    refine ⟨aa, dx, uf, rfl, ep, ?_⟩
    subst ecE ecX
    cases q6 : chk 1 fnE [v] c4.h with
    | exc _ _ _ => rw [q6] at qb; exact qb.elim
    | stuck => rw [q6] at qb; exact qb.elim
    | ok w h4 =>
     rw [q6] at qb
     simp only at qb
     have q6' : fnE [v] c4.h = .ok w h4 := q6
     refine sp_of (vs := [v]) N4.rel (.cons x4 .nil) rfl ?_
     rw [q6']
     intro c5 u5 N5 e5 x5
     subst e5
     cases q7 : ml (τ ++ [some w]) c5.h with
     | exc _ _ _ => rw [q7] at qb; exact qb.elim
     | stuck => rw [q7] at qb; exact qb.elim
     | ok z h6 =>
      rw [q7] at qb
      simp only at qb
      have lz : (pickL pk (zs ++ dvs)).length + 2 = j := by rw [← lx]; exact hl.2
      refine ⟨?_, code_mv (N4.trans N5) N3.rel hco3, u5, ?_, c5, τ ++ [some w], L, rfl, N5.rel, rs_snoc x5 ((s3'.nxt N4).nxt N5), ?_⟩
      ·rw [gsn (by omega)]
       rfl
      ·rw [List.getElem?_set_self]
       simp
       omega
      ·rw [q7]
       intro c6 u6 N6 e6 x6
       subst e6
       cases q8 : chk 4 fnX [v, .non, .non, .non] c6.h with
       | exc _ _ _ => rw [q8] at qb; exact qb.elim
       | stuck => rw [q8] at qb; exact qb.elim
       | ok y h7 =>
        rw [q8] at qb
        have q8' : fnX [v, .non, .non, .non] c6.h = .ok y h7 := q8
        refine sp_of (vs := [v, .non, .non, .non]) N6.rel (.cons ((x4.mono N5.mv).mono N6.mv) (.cons .non (.cons .non (.cons .non .nil)))) rfl ?_
        rw [q8']
        intro c7 u7 N7 e7 x7
        exact qb c7 u6 (((N4.trans N5).trans N6).trans N7) e7 (x6.mono N7.mv)
 ·cases r with
  | error e => exact (cx_false hq).elim
  | ok fl =>
   cases fl with
   | ret u => exact I3.after hq
   | next => exact False.elim hq
   | brk => exact False.elim hq
   | cont => exact False.elim hq
end
def visB (sc : Scope) (N : List Str) : Bool := sc.names.all fun y => !(decide (y.2 = .local) || decide (y.2 = .cell) || decide (y.2 = .free)) || decide (y.1 ∈ N)
theorem vis_of {sc : Scope} {N : List Str} (h : visB sc N = true) : ∀ y, Vis sc y → y ∈ N := fun y hy => by
 unfold visB at h
 rw [List.all_eq_true] at h
 have go : ∀ {k : NameKind}, sc.names.lookup y = some k → (k = .local ∨ k = .cell ∨ k = .free) → y ∈ N := fun {k} e hk => by
  have := h _ (PySem.mem_of_lookup e)
  simp only [Bool.or_eq_true, Bool.not_eq_true', decide_eq_true_eq, Bool.or_eq_false_iff, decide_eq_false_iff_not] at this
  rcases this with ⟨⟨a, b⟩, c⟩ | z
  ·rcases hk with r | r | r
   ·exact absurd r a
   ·exact absurd r b
   ·exact absurd r c
  ·exact z
 rcases hy with e | e | e
 ·exact go e (.inl rfl)
 ·exact go e (.inr (.inl rfl))
 ·exact go e (.inr (.inr rfl))
theorem ok_inb {P : Program} {w : World} {K : PySem.W.Frag} {G : Gx} {mg : Str → Option Value} {base : Heap} {k kB j ke kx : Nat} {g fe fx : Addr} {fd fde fdx : FuncData} {Ng ps pse psx : List Str} {fn bn x qual : Str} {st : Stmt} {dvs : List V} {kws : List (Str × V)} {ctx : Expr} {p1 p2 p3 py pr pw : Pos} {mctx : ME} {fnE fnX : FN}
  (F : FunD K x qual (defArgs st) (defBody st) (defScope st) dvs kws g fd) (S : FnScope Ng ps (defScope st)) (hbd : defBody st = [.With [⟨ctx, some (.Name bn py)⟩] [.Return (some (.Call (.Name fn p1) [.Name bn p3] [] p2)) pr] pw])
  (cl : Cls K (G.ca kB)) (oE : OwnM K (G.ca kB) "__enter__" fe) (oX : OwnM K (G.ca kB) "__exit__" fx) (Fe : FnOk P w K mg base (L2.CX P w) ke fe fde pse (spF G 1 fnE)) (Fx : FnOk P w K mg base (L2.CX P w) kx fx fdx psx (spF G 4 fnX)) (hke : ke ≤ k) (hkx : kx ≤ k) (hbe : Binds K fde pse []) (hbx : Binds K fdx psx [])
  (hN1 : Ng[1]? = some fn) (hv1 : Vis (defScope st) fn) (hNj : Ng[j]? = some bn) (hlj : Loc (defScope st) bn) (d1 : (fn == ("__debug__" : Str)) = false) (d2 : (fn == ("__classdict__" : Str)) = false) (d3 : (bn == ("__debug__" : Str)) = false) (d4 : (bn == ("__classdict__" : Str)) = false)
  (lNg : Ng.length = ps.length + 1) (lps : ps.length = j) (hv : visB (defScope st) Ng = true)
  (hctx : ∀ (cdv : Value) (B : Bx) (No : List Str) (A : Around) (outer : List Env) (s : Shared) (H : Hp) (E : XK), Room k (A.deeper (envOfC qual (defScope st) s.heap.objs.size g cdv)) → IE G B W0 (cxOf (L2.CX P w) P w K mg base (Ng ++ No) qual (defScope st) g cdv A outer s H E) ctx mctx) :
  InbOk P w K G mg base k kB g fd Ng ps fn bn j mctx (chk 1 fnE) (chk 4 fnX) := by
 obtain ⟨oc, od, dV, kV, doc, pm, an, cdv, ct, osl, efd, lk, hcd, _, _⟩ := F.ex
 exact ⟨_, _, _, _, _, _, _, _, _, _, _, _, _, _, _, _, _, _, _, _, _, _, fe, fx, ke, kx, fde, fdx, pse, psx, fnE, fnX, efd, efd ▸ lk, hcd, S, hbd, fun B No A outer s H E hr => hctx cdv B No A outer s H E hr, cl, ⟨oE.at_, oE.fn, oX.at_, oX.fn⟩, Fe, Fx, hke, hkx, hbe, hbx, rfl, rfl, hN1, hv1, hNj, hlj,
  hlj.elim (fun z => .inl z) (fun z => .inr (.inl z)), d1, d2, d3, d4, lNg, lps, vis_of hv⟩
end PI
namespace PI
open PySem PySem.Spec PyProof.Rows L2
end PI
namespace PI
open PySem PySem.Spec PyProof.Rows L2 He
inductive KVs (G : Gx) : List (Str × V) → List (Str × AV) → Prop where
 | nil : KVs G [] []
 | cons {x : Str} {v : V} {a : AV} {qs : List (Str × V)} {tb : List (Str × AV)} : GV G a v → KVs G qs tb → KVs G ((x, v) :: qs) ((x, a) :: tb)
theorem walk_hd {l : PySem.W.OpenLaw} {q : Program} {loose : List Str} {XP : (Str → Option Value) → Heap → Prop} {YP : World → Heap → Prop} {d : DefRec} {k : Nat} {m : FN} (hn : l.most = some 63) (hdf : d.params.defaults = []) (hr : Room k callerA)
    (ht : ∀ ns : List Int, ns.length ≤ 63 → ∃ h', m [.fl (ns.map .int)] [] = .ok (.bl true) h')
    (F : ∀ (w : World) (mg : Str → Option Value) (fa : Addr) (h : Heap), YP w h → h.Ns mainGlobals mg → mg d.name = some (.ref fa) → ∃ K : PySem.W.Frag, K.In h ∧
      ∃ (fd : FuncData) (cs : List (Addr × Addr)), (∀ p ∈ cs, h.get? p.2 = some { cls := .none, data := .fields #[] }) ∧ (∀ p ∈ cs, K.lookup p.2 = none) ∧ (∀ p ∈ cs, PySem.W.codeHdIn K p.1 p.2 = true) ∧
        (∀ (s : Shared) (u : Value), BindsTo s fd ⟨[u], []⟩ [("_law_script", u)]) ∧ ∀ base : Heap, K.In base → base.Ns mainGlobals mg → (∀ p ∈ cs, LamX.TabB base mg p.1 p.2) →
          ∃ G : Gx, K = G.K ∧ (∀ p, p ∈ G.tb → p.1 ∈ cs.map (·.2)) ∧ FnG l.prog w K mg base k fa fd ["_law_script"] (spF G 1 m)) :
    PySem.W.WalkO q loose XP YP l.row.toRowW d [] (fun f vs => PySem.call f vs) := by
  refine Att.attach_callB hn hdf fun w s₀ s₁ mg mb fa o pm cd doc a vs ns T Y ho hd hcd hmg hobj hints hlen hbits hg => ?_
  obtain ⟨K, KX, fd, cs, hT, nT, C, hb, hF⟩ := F w mg fa _ Y T.T.g hmg
  have O : TopOk K mg mb a cs vs s₁ := ⟨KX, T.T.g, T.T.b, T.T.builtins, T.T.nolimit, hg, hT, nT, fun p hp => PySem.W.codeHd_of_K KX (C p hp), T.T.bmain, hobj⟩
  refine O.call (k := k) (sp := fun vs H Q E => (∀ p ∈ cs, H p.2 = some (.tbl #[])) ∧ spLaw K vs H Q E) hints (Nat.le_trans hlen (by decide)) hr (fun base i j tb => ?_) hb fun H hH hS => ⟨hH, a, ns, rfl, hS, hlen, fun _ => rfl⟩
  obtain ⟨G, hK, hG, ff⟩ := hF base i j tb
  refine (law_endG hK ff ht).imp fun vs H Q E ⟨h1, h2⟩ => ⟨fun p hp => ?_, h2⟩
  obtain ⟨p2, hp2, e⟩ := List.mem_map.mp (hG p hp)
  rw [← e]
  exact h1 p2 hp2
section
variable {K : PySem.W.Frag} {a : Addr} {x qual : Str} {st : Stmt} {fd : FuncData}
theorem dtr {p : Prop} [Decidable p] (h : decide p = true) : p := of_decide_eq_true h
theorem noA {o : Option (Option Value)} (h : decide (o = some none) = true) : o = some none := of_decide_eq_true h
theorem fu_ok (e : fnA K a = some (x, qual, defArgs st, .stmts (defBody st), defScope st, mainGlobals, [], builtinsNs)) (q : fqB K a qual = true) : Fun K x qual st a (fdG K a) := by
 obtain ⟨n, q⟩ := ba q
 obtain ⟨c, k⟩ := ba q
 obtain ⟨oc, od, dc, pm, an, ct, sl, z, l⟩ := fd_lk e
 rw [isN_ok n] at z
 exact ⟨⟨oc, od, _, dc, pm, an, _, ct, sl, z, l, c⟩, k⟩
theorem fuC_ok (e : fnA K a = some (x, qual, defArgs st, .stmts (defBody st), defScope st, mainGlobals, [], builtinsNs)) (q : fqC K a qual = true) : FunC K x qual st a (fdG K a) (.ref (vA (cdV K a))) := by
 obtain ⟨v, q⟩ := ba q
 obtain ⟨n, q⟩ := ba q
 obtain ⟨c, k⟩ := ba q
 obtain ⟨oc, od, dc, pm, an, ct, sl, z, l⟩ := fd_lk e
 rw [isN_ok n, isV_ok v] at z
 rw [isV_ok v] at c
 exact ⟨⟨oc, od, _, dc, pm, an, ct, sl, z, l, c⟩, k⟩
theorem fuD_ok {dvs : List V} {kws : List (Str × V)} (e : fnA K a = some (x, qual, defArgs st, .stmts (defBody st), defScope st, mainGlobals, [], builtinsNs)) (q : fqD K a qual = true) (dp : DflV K (dfV K a) dvs) (kp : KwdV K (kwV K a) kws) : FunD K x qual (defArgs st) (defBody st) (defScope st) dvs kws a (fdG K a) := by
 obtain ⟨c, k⟩ := ba q
 obtain ⟨oc, od, dc, pm, an, ct, sl, z, l⟩ := fd_lk e
 exact ⟨⟨oc, od, _, _, dc, pm, an, _, ct, sl, z, l, c, dp, kp⟩, k⟩
theorem dfl0 (n : isN (dfV K a) = true) : DflV K (dfV K a) [] := .inl ⟨rfl, isN_ok n⟩
theorem dfl1 {us : List V} (v : isV (dfV K a) = true) (s : sqB K (vA (dfV K a)) us = true) (ne : us ≠ []) : DflV K (dfV K a) us := by
 obtain ⟨o, ts, n, h1, h2, h3⟩ := sqB_ok s
 exact .inr ⟨ne, _, o, ts.toList, n, isV_ok v, h1, by simpa using h2, h3⟩
theorem kwlS {D : Addr} {n y : Str} {r : List (Str × V)} (e : litB (.str y) (PySem.W.nsIn K D n) = true) (h : ∀ q, q ∈ r → ∃ u, PySem.W.nsIn K D q.1 = some (some u) ∧ RelV q.2 u) : ∀ q, q ∈ (n, V.str y) :: r → ∃ u, PySem.W.nsIn K D q.1 = some (some u) ∧ RelV q.2 u :=
 let ⟨_, z⟩ := litS_ok e; kwd1 z ⟨_, rfl⟩ h
theorem _root_.L2.Fun.bnd {p1 : Str} (F : Fun K x qual st a fd) (h : ∀ (kV doc pm : Value) (an : Option Addr) (cdv ct u1 : Value), bindArgs (PySem.W.fnOf x qual (defArgs st) (defBody st) (defScope st) .none kV doc pm an cdv ct) ⟨[u1], []⟩ = pure [(p1, u1)]) (s : Shared) (u : Value) : BindsTo s fd ⟨[u], []⟩ [(p1, u)] := by
 obtain ⟨oc, od, kV, doc, pm, an, cdv, ct, osl, rfl, lk, hcd⟩ := F.ex
 exact .of_eq (h kV doc pm an cdv ct u)
theorem _root_.L2.Fun.b1 {p1 : Str} (F : Fun K x qual st a fd) (h : ∀ (kV doc pm : Value) (an : Option Addr) (cdv ct u1 : Value), bindArgs (PySem.W.fnOf x qual (defArgs st) (defBody st) (defScope st) .none kV doc pm an cdv ct) ⟨[u1], []⟩ = pure ([p1].zip [u1])) : Binds K fd [p1] [] :=
 F.binds fun kV doc pm an cdv ct us hl => match us, hl with | [u1], _ => h kV doc pm an cdv ct u1
theorem _root_.L2.Fun.b0 (F : Fun K x qual st a fd) (h : ∀ (kV doc pm : Value) (an : Option Addr) (cdv ct : Value), bindArgs (PySem.W.fnOf x qual (defArgs st) (defBody st) (defScope st) .none kV doc pm an cdv ct) ⟨[], []⟩ = pure (([] : List Str).zip [])) : Binds K fd [] [] :=
 F.binds fun kV doc pm an cdv ct us hl => match us, hl with | [], _ => h kV doc pm an cdv ct
theorem _root_.L2.Fun.b2 {p1 p2 : Str} (F : Fun K x qual st a fd) (h : ∀ (kV doc pm : Value) (an : Option Addr) (cdv ct u1 u2 : Value), bindArgs (PySem.W.fnOf x qual (defArgs st) (defBody st) (defScope st) .none kV doc pm an cdv ct) ⟨[u1, u2], []⟩ = pure (([p1, p2] : List Str).zip [u1, u2])) : Binds K fd [p1, p2] [] :=
 F.binds fun kV doc pm an cdv ct us hl => match us, hl with | [u1, u2], _ => h kV doc pm an cdv ct u1 u2
theorem _root_.L2.Fun.b3 {p1 p2 p3 : Str} (F : Fun K x qual st a fd) (h : ∀ (kV doc pm : Value) (an : Option Addr) (cdv ct u1 u2 u3 : Value), bindArgs (PySem.W.fnOf x qual (defArgs st) (defBody st) (defScope st) .none kV doc pm an cdv ct) ⟨[u1, u2, u3], []⟩ = pure (([p1, p2, p3] : List Str).zip [u1, u2, u3])) : Binds K fd [p1, p2, p3] [] :=
 F.binds fun kV doc pm an cdv ct us hl => match us, hl with | [u1, u2, u3], _ => h kV doc pm an cdv ct u1 u2 u3
theorem _root_.L2.Fun.b4 {p1 p2 p3 p4 : Str} (F : Fun K x qual st a fd) (h : ∀ (kV doc pm : Value) (an : Option Addr) (cdv ct u1 u2 u3 u4 : Value), bindArgs (PySem.W.fnOf x qual (defArgs st) (defBody st) (defScope st) .none kV doc pm an cdv ct) ⟨[u1, u2, u3, u4], []⟩ = pure (([p1, p2, p3, p4] : List Str).zip [u1, u2, u3, u4])) : Binds K fd [p1, p2, p3, p4] [] :=
 F.binds fun kV doc pm an cdv ct us hl => match us, hl with | [u1, u2, u3, u4], _ => h kV doc pm an cdv ct u1 u2 u3 u4
theorem _root_.L2.Fun.b5 {p1 p2 p3 p4 p5 : Str} (F : Fun K x qual st a fd) (h : ∀ (kV doc pm : Value) (an : Option Addr) (cdv ct u1 u2 u3 u4 u5 : Value), bindArgs (PySem.W.fnOf x qual (defArgs st) (defBody st) (defScope st) .none kV doc pm an cdv ct) ⟨[u1, u2, u3, u4, u5], []⟩ = pure (([p1, p2, p3, p4, p5] : List Str).zip [u1, u2, u3, u4, u5])) : Binds K fd [p1, p2, p3, p4, p5] [] :=
 F.binds fun kV doc pm an cdv ct us hl => match us, hl with | [u1, u2, u3, u4, u5], _ => h kV doc pm an cdv ct u1 u2 u3 u4 u5
end
end PI
namespace Wk12
open PySem PySem.Spec PyProof.Rows L2 ClX PI
def mt5 : XC → Option Bool := mtOf [(1, false), (3, false), (5, true)]
def kt : AT → AT → Option Bool := ktOf (ktF [((12, 13), false), ((12, 14), false)]) (ktG [12]) kth0
def ktE : AT → AT → Option Bool := ktOf (ktF [((12, 1), false), ((12, 3), false), ((12, 5), false)]) ktg0 (ktH [])
def l0_bag : MS := (sSet 3 (mBin kMod (mL kInt (mCons (mBin kAdd (mBin kAdd (mBin kMul (mVar 3) (mC (.int 40692))) (mBin kMod (mL kInt (mCons (mVar 5) mNil)) (mC (.int 2147483249)))) (mBin kMul (mC (.int 977)) (mVar 4))) mNil)) (mC (.int 2147483399))))
def b_bag : MS := (sSeq (sSet 2 (mIf (mB (mBin kLt (mVar 1) (mL kLen (mCons (mVar 0) mNil)))) (mBin kIx (mVar 0) (mVar 1)) (mC (.int 0))))
 (sSeq (sSet 3 (mBin kAdd (mBin kMul (mC (.int 5171)) (mVar 1)) (mC (.int 617))))
 (sSeq (sFor (gT 2 (gsCons (gN 4) (gsCons (gN 5) gsNil))) (mEnumA (mCons (mSl (mVar 0) none (some (mC (.int 63)))) mNil)) l0_bag)
 (sRet (mL kLst (mCons (mIf (mB (mBin kGe (mL kAbs (mCons (mVar 2) mNil)) (mBin kPow (mC (.int 10)) (mC (.int 18))))) (mL kAbs (mCons (mVar 2) mNil)) (mC (.int 0))) (mCons (mVar 3) mNil)))))))
def m_bag : FN := runF 6 b_bag
def c_bag : FN := fun vs h => chk 2 m_bag (vs ++ []) h
def b_take : MS := (sSeq (sIf (mB (mBin kGt (mBin kIx (mVar 0) (mC (.int 0))) (mC (.int 0)))) (sSeq (sSet 2 (mBin kMod (mL kInt (mCons (mBin kIx (mVar 0) (mC (.int 0))) mNil)) (mVar 1)))
 (sSeq (sSetIx (mVar 0) (mC (.int 0)) (mBin kFdiv (mBin kIx (mVar 0) (mC (.int 0))) (mVar 1)))
 (sRet (mVar 2)))) sSkip)
 (sSeq (sSetIx (mVar 0) (mC (.int 1)) (mBin kMod (mL kInt (mCons (mBin kAdd (mBin kMul (mBin kIx (mVar 0) (mC (.int 1))) (mC (.int 48271))) (mC (.int 70001))) mNil)) (mC (.int 2147483629))))
 (sRet (mBin kMod (mBin kFdiv (mBin kMod (mL kInt (mCons (mBin kMul (mBin kFdiv (mBin kIx (mVar 0) (mC (.int 1))) (mC (.int 13))) (mC (.int 39373))) mNil)) (mC (.int 2147483647))) (mC (.int 32))) (mVar 1)))))
def m_take : FN := runF 3 b_take
def c_take : FN := fun vs h => chk 2 m_take (vs ++ []) h
def b_of : MS := (sRet (mBin kIx (mVar 1) (mCall c_take (mCons (mVar 0) (mCons (mL kLen (mCons (mVar 1) mNil)) mNil)))))
def m_of : FN := runF 2 b_of
def c_of : FN := fun vs h => chk 2 m_of (vs ++ []) h
def l0_names : MS := (sSet 6 (mBin kAdd (mVar 6) (mCall c_of (mCons (mVar 0) (mCons (mL kFl (mCons (mC (.str "a")) (mCons (mC (.str "z")) (mCons (mC (.str "q")) (mCons (mC (.str "m")) mNil))))) mNil)))))
def l1_names : MS := (sSeq (sSet 7 (mBMl kPopR (mVar 4) (mCons (mCall c_take (mCons (mVar 0) (mCons (mL kLen (mCons (mVar 4) mNil)) mNil))) mNil)))
 (sExpr (mBMl kAppR (mVar 5) (mCons (mIf (mB (mVar 2)) (mBin kAdd (mVar 7) (mVar 6)) (mBin kAdd (mVar 6) (mVar 7))) mNil))))
def b_names : MS := (sSeq (sPar3 4 5 6 (mCons (mL kListR (mCons (mC (.str "abcdefghijklmnopqrstuvwxyz")) mNil)) (mCons (mL kLst mNil) (mCons (mC (.str "")) mNil))))
 (sSeq (sSet 2 (mBin kEq (mCall c_take (mCons (mVar 0) (mCons (mC (.int 2)) mNil))) (mC (.int 0))))
 (sSeq (sFor (gN 3) (mRng1 (mCons (mCall c_take (mCons (mVar 0) (mCons (mC (.int 8)) mNil))) mNil)) l0_names)
 (sSeq (sFor (gN 3) (mRng1 (mCons (mVar 1) mNil)) l1_names)
 (sRet (mKill (mVar 5)))))))
def m_names : FN := runF 8 b_names
def c_names : FN := fun vs h => chk 2 m_names (vs ++ []) h
def b_keys : MS := (sSeq (sSet 2 (mCall c_names (mCons (mVar 0) (mCons (mBin kAdd (mC (.int 1)) (mCall c_take (mCons (mVar 0) (mCons (mC (.int 2)) mNil)))) mNil))))
 (sRet (mLc [3] (gE 3) (mIt itL (mCall c_names (mCons (mVar 0) (mCons (mVar 1) mNil)))) mYes (mBin kAdd (mBin kAdd (mCall c_of (mCons (mVar 0) (mCons (mVar 2) mNil))) (mC (.str "/"))) (mVar 3)))))
def m_keys : FN := runF 4 b_keys
def c_keys : FN := fun vs h => chk 2 m_keys (vs ++ []) h
def l0_owners : MS := (sIf (mB (mBin kEq (mCall c_take (mCons (mVar 0) (mCons (mC (.int 3)) mNil))) (mC (.int 0)))) (sExpr (mBMl kAppR (mVar 2) (mCons (mBin kIx (mM1 kPart (mVar 3) (mC (.str "/"))) (mC (.int 0))) mNil))) sSkip)
def b_owners : MS := (sSeq (sSet 2 (mL kLst mNil))
 (sSeq (sFor (gN 3) (mIt itL (mVar 1)) l0_owners)
 (sRet (mVar 2))))
def m_owners : FN := runF 4 b_owners
def c_owners : FN := fun vs h => chk 2 m_owners (vs ++ []) h
def b_integer : MS := (sSeq (sSet 1 (mCall c_take (mCons (mVar 0) (mCons (mC (.int 7)) mNil))))
 (sSeq (sIf (mB (mBin kLt (mVar 1) (mC (.int 5)))) (sRet (mBin kIx (mL kFl (mCons (mC (.int 0)) (mCons (mC (.int 1)) (mCons (mUn kNeg (mC (.int 1))) (mCons (mBin kSub (mBin kPow (mC (.int 10)) (mC (.int 30))) (mC (.int 1))) (mCons (mBin kSub (mC (.int 1)) (mBin kPow (mC (.int 10)) (mC (.int 30)))) mNil)))))) (mVar 1))) sSkip)
 (sSeq (sSet 2 (mCall c_take (mCons (mVar 0) (mCons (mBin kPow (mC (.int 10)) (mC (.int 30))) mNil))))
 (sRet (mIf (mB (mBin kEq (mVar 1) (mC (.int 5)))) (mVar 2) (mBin kSub (mC (.int 0)) (mVar 2)))))))
def m_integer : FN := runF 3 b_integer
def c_integer : FN := fun vs h => chk 1 m_integer (vs ++ []) h
def l0_rows : MS := (sIf (mB (mBin kEq (mCall c_take (mCons (mVar 0) (mCons (mC (.int 2)) mNil))) (mC (.int 0)))) (sExpr (mBMl kAppR (mVar 2) (mCons (mL kTup (mCons (mVar 3) (mCons (mCall c_integer (mCons (mVar 0) mNil)) mNil))) mNil))) sSkip)
def b_rows : MS := (sSeq (sSet 2 (mL kLst mNil))
 (sSeq (sFor (gN 3) (mIt itL (mVar 1)) l0_rows)
 (sRet (mVar 2))))
def m_rows : FN := runF 4 b_rows
def c_rows : FN := fun vs h => chk 2 m_rows (vs ++ []) h
def l0_is_name : MS := (sIf (mB (mBin (kInS true) (mVar 1) (mC (.str "abcdefghijklmnopqrstuvwxyz")))) (sRet (mC (.bl false))) sSkip)
def b_is_name : MS := (sSeq (sIf (mTOr (mTNot (mB (mL (kIsi kt) (mCons (mVar 0) (mCons (mC (.ty "str")) mNil))))) (mTNot (mB (mChain kLe kLe (mC (.int 1)) (mL kLen (mCons (mVar 0) mNil)) (mC (.int 8)))))) (sRet (mC (.bl false))) sSkip)
 (sSeq (sFor (gN 1) (mIt itS (mVar 0)) l0_is_name)
 (sRet (mC (.bl true)))))
def m_is_name : FN := runF 2 b_is_name
def c_is_name : FN := fun vs h => chk 1 m_is_name (vs ++ []) h
def b_is_key : MS := (sSeq (sIf (mTNot (mB (mL (kIsi kt) (mCons (mVar 0) (mCons (mC (.ty "str")) mNil))))) (sRet (mC (.bl false))) sSkip)
 (sSeq (sAsg (gT 3 (gsCons (gN 1) (gsCons (gN 2) (gsCons (gN 3) gsNil)))) (mM1 kPart (mVar 0) (mC (.str "/"))))
 (sRet (mAndV (mBin kEq (mVar 2) (mC (.str "/"))) (mAndV (mCall c_is_name (mCons (mVar 1) mNil)) (mCall c_is_name (mCons (mVar 3) mNil)))))))
def m_is_key : FN := runF 4 b_is_key
def c_is_key : FN := fun vs h => chk 1 m_is_key (vs ++ []) h
def b_is_integer : MS := (sRet (mAndV (mL (kIsi kt) (mCons (mVar 0) (mCons (mC (.ty "int")) mNil))) (mAndV (mNotV (mL (kIsi kt) (mCons (mVar 0) (mCons (mC (.ty "bool")) mNil)))) (mChain kLe kLe (mUn kNeg (mC (.int 999999999999999999999999999999))) (mVar 0) (mC (.int 999999999999999999999999999999))))))
def m_is_integer : FN := runF 1 b_is_integer
def c_is_integer : FN := fun vs h => chk 1 m_is_integer (vs ++ []) h
def l0_checked_rows : MS := (sSeq (sIf (mTOr (mTNot (mB (mCall c_is_key (mCons (mVar 2) mNil)))) (mB (mBin (kInDict false) (mVar 2) (mVar 1)))) (sRaise (mExc (.own 1) [0, 1] (mCons (mC (.str "key")) (mCons (mVar 2) mNil)))) sSkip)
 (sSeq (sIf (mTNot (mB (mCall c_is_integer (mCons (mVar 3) mNil)))) (sRaise (mExc (.own 1) [0, 1] (mCons (mC (.str "value")) (mCons (mVar 3) mNil)))) sSkip)
 (sDPutM (mVar 1) (mVar 2) (mVar 3))))
def b_checked_rows : MS := (sSeq (sSet 1 mDNew)
 (sSeq (sForD 100 (gT 2 (gsCons (gN 2) (gsCons (gN 3) gsNil))) (mSrcQ (mVar 0)) l0_checked_rows)
 (sRet (mVar 1))))
def m_checked_rows : FN := runF 4 b_checked_rows
def c_checked_rows : FN := fun vs h => chk 1 m_checked_rows (vs ++ []) h
def b_owner_of : MS := (sSeq (sIf (mTNot (mB (mCall c_is_key (mCons (mVar 0) mNil)))) (sRaise (mExc (.own 1) [0, 1] (mCons (mC (.str "key")) (mCons (mVar 0) mNil)))) sSkip)
 (sRet (mBin kIx (mM1 kPart (mVar 0) (mC (.str "/"))) (mC (.int 0)))))
def m_owner_of : FN := runF 1 b_owner_of
def c_owner_of : FN := fun vs h => chk 1 m_owner_of (vs ++ []) h
def l0_checked_owners : MS := (sSeq (sIf (mTNot (mB (mCall c_is_name (mCons (mVar 3) mNil)))) (sRaise (mExc (.own 1) [0, 1] (mCons (mC (.str "owner")) (mCons (mVar 3) mNil)))) sSkip)
 (sDPutM (mVar 2) (mVar 3) (mC (.bl true))))
def b_checked_owners : MS := (sSeq (sSet 2 (mL kDictR (mCons (mLcK 0 [4] (gE 4) mYes (mL kTup (mCons (mCall c_owner_of (mCons (mVar 4) mNil)) (mCons (mC (.bl true)) mNil)))) mNil)))
 (sSeq (sForD 100 (gN 3) (mSrcQ (mVar 1)) l0_checked_owners)
 (sRet (mVar 2))))
def m_checked_owners : FN := runF 5 b_checked_owners
def c_checked_owners : FN := fun vs h => chk 2 m_checked_owners (vs ++ []) h
def b_Store__init : MS := (sSeq (sIf (mB (mL (kIsi kt) (mCons (mVar 1) (mCons (mC (.cls 12)) mNil)))) (sPar 3 4 (mCons (mL kDictR (mCons (mFld [12, 13] 42 (mVar 1)) mNil)) (mCons (mL kDictR (mCons (mFld [12, 13] 43 (mVar 1)) mNil)) mNil))) (sSeq (sSet 3 (mCall c_checked_rows (mCons (mVar 1) mNil)))
 (sSet 4 (mCall c_checked_owners (mCons (mVar 3) (mCons (mVar 2) mNil))))))
 (sSeq (sOwnF [13] 42 (mVar 3))
 (sOwnF [13] 43 (mVar 4))))
def m_Store__init : FI := runI 5 13 b_Store__init
def b_Store_all_owners : MS := (sRet (mL kSortR (mCons (mL kListDF (mCons (mFld [12, 13] 43 (mVar 0)) mNil)) mNil)))
def m_Store_all_owners : FN := runF 1 b_Store_all_owners
def c_Store_all_owners : FN := fun vs h => chk 1 m_Store_all_owners (vs ++ []) h
def b_value : MS := (sRet (mIf (mB (mBin kEq (mCall c_take (mCons (mVar 0) (mCons (mC (.int 4)) mNil))) (mC (.int 0)))) (mC .non) (mCall c_integer (mCons (mVar 0) mNil))))
def m_value : FN := runF 1 b_value
def c_value : FN := fun vs h => chk 1 m_value (vs ++ []) h
def l0_writes : MS := (sSeq (sPar 6 7 (mCons (mCall c_of (mCons (mVar 0) (mCons (mL kFl (mCons (mC (.str "bear")) (mCons (mC (.str "make")) (mCons (mC (.str "make")) (mCons (mC (.str "set")) (mCons (mC (.str "add")) (mCons (mC (.str "drop")) mNil))))))) mNil))) (mCons (mCall c_of (mCons (mVar 0) (mCons (mVar 1) mNil))) mNil)))
 (sSeq (sSet 5 (mIf (mB (mBin kEq (mVar 6) (mC (.str "bear")))) (mBin kIx (mM1 kPart (mVar 7) (mC (.str "/"))) (mC (.int 0))) (mVar 7)))
 (sExpr (mBMl kAppR (mVar 3) (mCons (mL kTup (mCons (mVar 6) (mCons (mVar 5) (mCons (mIf (mB (mBin (kInB false) (mVar 6) (mL kFl (mCons (mC (.str "bear")) (mCons (mC (.str "drop")) mNil))))) (mC .non) (mCall c_value (mCons (mVar 0) mNil))) mNil)))) mNil)))))
def b_writes : MS := (sSeq (sSet 3 (mL kLst mNil))
 (sSeq (sFor (gN 4) (mRng1 (mCons (mVar 2) mNil)) l0_writes)
 (sRet (mKill (mVar 3)))))
def m_writes : FN := runF 8 b_writes
def c_writes : FN := fun vs h => chk 3 m_writes (vs ++ []) h
def b_reason : MS := (sSeq (sAsg (gT 3 (gsCons (gN 4) (gsCons (gN 5) (gsCons (gN 6) gsNil)))) (mVar 2))
 (sSeq (sIf (mB (mBin kEqH (mVar 4) (mC (.str "bear")))) (sRet (mIf (mB (mBin (kInH false) (mVar 5) (mVar 1))) (mC (.str "born")) (mC .non))) sSkip)
 (sSeq (sIf (mTAnd (mB (mBin kNeH (mVar 4) (mC (.str "drop")))) (mB (mBin kIsN (mVar 6) (mC .non)))) (sRet (mC (.str "empty"))) sSkip)
 (sSeq (sIf (mB (mBin kEqH (mVar 4) (mC (.str "make")))) (sSeq (sIf (mB (mBin (kInH true) (mBin kIx (mM1 kPart (mVar 5) (mC (.str "/"))) (mC (.int 0))) (mVar 1))) (sRet (mC (.str "orphan"))) sSkip)
 (sRet (mIf (mTAnd (mB (mBin (kInDict false) (mVar 5) (mVar 0))) (mB (mBin kEqH (mBin kIx (mVar 3) (mC (.int 0))) (mC (.str "refuse"))))) (mC (.str "clash")) (mC .non)))) sSkip)
 (sRet (mIf (mTAnd (mB (mBin (kInDict true) (mVar 5) (mVar 0))) (mB (mBin kEqH (mBin kIx (mVar 3) (mC (.int 1))) (mC (.str "refuse"))))) (mC (.str "lost")) (mC .non)))))))
def m_reason : FN := runF 7 b_reason
def c_reason : FN := fun vs h => chk 4 m_reason (vs ++ []) h
def b_do : MS := (sSeq (sAsg (gT 3 (gsCons (gN 4) (gsCons (gN 5) (gsCons (gN 6) gsNil)))) (mVar 2))
 (sIf (mB (mBin kEq (mVar 4) (mC (.str "bear")))) (sExpr (mBMl kAppR (mVar 1) (mCons (mVar 5) mNil))) (sIf (mTAnd (mB (mBin kEq (mVar 4) (mC (.str "make")))) (mTOr (mB (mBin (kInDict true) (mVar 5) (mVar 0))) (mB (mBin kEq (mBin kIx (mVar 3) (mC (.int 0))) (mC (.str "take")))))) (sDPutM (mVar 0) (mVar 5) (mVar 6)) (sIf (mTAnd (mB (mBin kEq (mVar 4) (mC (.str "set")))) (mB (mBin (kInDict false) (mVar 5) (mVar 0)))) (sDPutM (mVar 0) (mVar 5) (mVar 6)) (sIf (mTAnd (mB (mBin kEq (mVar 4) (mC (.str "add")))) (mB (mBin (kInDict false) (mVar 5) (mVar 0)))) (sDPutM (mVar 0) (mVar 5) (mBin kAdd (mBin kDGet (mVar 0) (mVar 5)) (mVar 6))) (sIf (mB (mBin kEq (mVar 4) (mC (.str "drop")))) (sExpr (mDPop (mVar 0) (mVar 5) (mC .non))) sSkip))))))
def m_do : FN := runF 7 b_do
def c_do : FN := fun vs h => chk 4 m_do (vs ++ []) h
def b_Batch__init : MS := (sSeq (sFldSet [14] 54 (mVar 0) (mVar 1))
 (sSeq (sFldSet [14] 35 (mVar 0) (mVar 2))
 (sSeq (sFldSet [14] 36 (mVar 0) (mVar 3))
 (sSeq (sFldSet [14] 55 (mVar 0) (mC (.int 0)))
 (sSeq (sFldSet [14] 56 (mVar 0) mDNew)
 (sFldSet [14] 57 (mVar 0) mDNew))))))
def m_Batch__init : FN := runF 4 b_Batch__init
def c_Batch__init : FN := fun vs h => chk 4 m_Batch__init (vs ++ []) h
def b_Store_batch : MS := (sRet (mMkR 14 c_Batch__init (mCons (mVar 0) (mCons (mVar 1) (mCons (mVar 2) mNil)))))
def m_Store_batch : FN := runF 3 b_Store_batch
def c_Store_batch : FN := fun vs h => chk 3 m_Store_batch (vs ++ []) h
def b_Batch__enter : MS := (sSeq (sFldSet [14] 56 (mVar 0) (mL kDictR (mCons (mFld [12, 13] 42 (mFld [14] 54 (mVar 0))) mNil)))
 (sSeq (sFldSet [14] 57 (mVar 0) (mL kDictR (mCons (mFld [12, 13] 43 (mFld [14] 54 (mVar 0))) mNil)))
 (sSeq (sFldSet [14] 55 (mVar 0) (mC (.int 0)))
 (sRet (mVar 0)))))
def m_Batch__enter : FN := runF 1 b_Batch__enter
def b_Batch__exit : MS := (sIf (mB (mBin kNotN (mVar 1) (mC .non))) (sSeq (sFldSet [12, 13] 42 (mFld [14] 54 (mVar 0)) (mFld [14] 56 (mVar 0)))
 (sFldSet [12, 13] 43 (mFld [14] 54 (mVar 0)) (mFld [14] 57 (mVar 0)))) sSkip)
def m_Batch__exit : FN := runF 4 b_Batch__exit
def x_in_batch : ME := (mMetN 13 53 1 2 [0, 1, 2] [.str "refuse", .str "refuse"] (chk 3 m_Store_batch) (mVar 0) mNil (mCons (mVar 2) (mCons (mVar 3) mNil)))
def b_Store_has_owner : MS := (sRet (mAndV (mCall c_is_name (mCons (mVar 1) mNil)) (mBin (kInDict false) (mVar 1) (mFld [12, 13] 43 (mVar 0)))))
def m_Store_has_owner : FN := runF 2 b_Store_has_owner
def c_Store_has_owner : FN := fun vs h => chk 2 m_Store_has_owner (vs ++ []) h
def b_Store_row : MS := (sRet (mIf (mTAnd (mB (mCall c_is_key (mCons (mVar 1) mNil))) (mB (mBin (kInDict false) (mVar 1) (mFld [12, 13] 42 (mVar 0))))) (mL kTup (mCons (mBin kDGet (mFld [12, 13] 42 (mVar 0)) (mVar 1)) mNil)) (mL kTup mNil)))
def m_Store_row : FN := runF 2 b_Store_row
def c_Store_row : FN := fun vs h => chk 2 m_Store_row (vs ++ []) h
def b_reason_of : MS := (sSeq (sAsg (gT 3 (gsCons (gN 5) (gsCons (gN 6) (gsCons (gN 7) gsNil)))) (mVar 1))
 (sSeq (sIf (mB (mBin kEq (mVar 5) (mC (.str "bear")))) (sRet (mIf (mB (mMet 13 46 c_Store_has_owner (mVar 0) (mCons (mVar 6) mNil))) (mC (.str "born")) (mC .non))) sSkip)
 (sSeq (sIf (mTAnd (mB (mBin kNe (mVar 5) (mC (.str "drop")))) (mB (mBin kIsN (mVar 7) (mC .non)))) (sRet (mC (.str "empty"))) sSkip)
 (sSeq (sSet 4 (mBin kEq (mL kLen (mCons (mMet 13 45 c_Store_row (mVar 0) (mCons (mVar 6) mNil)) mNil)) (mC (.int 1))))
 (sSeq (sIf (mB (mBin kEq (mVar 5) (mC (.str "make")))) (sSeq (sIf (mTNot (mB (mMet 13 46 c_Store_has_owner (mVar 0) (mCons (mCall c_owner_of (mCons (mVar 6) mNil)) mNil)))) (sRet (mC (.str "orphan"))) sSkip)
 (sRet (mIf (mTAnd (mB (mVar 4)) (mB (mBin kEq (mVar 2) (mC (.str "refuse"))))) (mC (.str "clash")) (mC .non)))) sSkip)
 (sRet (mIf (mTAnd (mTNot (mB (mVar 4))) (mB (mBin kEq (mVar 3) (mC (.str "refuse"))))) (mC (.str "lost")) (mC .non))))))))
def m_reason_of : FN := runF 8 b_reason_of
def c_reason_of : FN := fun vs h => chk 4 m_reason_of (vs ++ []) h
def b_Batch_refusal : MS := (sRet (mCall c_reason_of (mCons (mFld [14] 54 (mVar 0)) (mCons (mL kTup (mCons (mVar 1) (mCons (mVar 2) (mCons (mVar 3) mNil)))) (mCons (mFld [14] 35 (mVar 0)) (mCons (mFld [14] 36 (mVar 0)) mNil))))))
def m_Batch_refusal : FN := runF 4 b_Batch_refusal
def c_Batch_refusal : FN := fun vs h => chk 4 m_Batch_refusal (vs ++ []) h
def b_Store_bear : MS := (sSeq (sIf (mTNot (mB (mCall c_is_name (mCons (mVar 1) mNil)))) (sRaise (mExc (.own 1) [0, 1] (mCons (mC (.str "owner")) (mCons (mVar 1) mNil)))) sSkip)
 (sSeq (sSet 2 (mBin (kInDict true) (mVar 1) (mFld [12, 13] 43 (mVar 0))))
 (sSeq (sDPutM (mFld [12, 13] 43 (mVar 0)) (mVar 1) (mC (.bl true)))
 (sRet (mVar 2)))))
def m_Store_bear : FN := runF 3 b_Store_bear
def c_Store_bear : FN := fun vs h => chk 2 m_Store_bear (vs ++ []) h
def b_Store_put : MS := (sSeq (sDPutM (mFld [12, 13] 42 (mVar 0)) (mVar 1) (mVar 2))
 (sDPutM (mFld [12, 13] 43 (mVar 0)) (mCall c_owner_of (mCons (mVar 1) mNil)) (mC (.bl true))))
def m_Store_put : FN := runF 3 b_Store_put
def c_Store_put : FN := fun vs h => chk 3 m_Store_put (vs ++ []) h
def b_Store_drop : MS := (sSeq (sIf (mTOr (mTNot (mB (mCall c_is_key (mCons (mVar 1) mNil)))) (mB (mBin (kInDict true) (mVar 1) (mFld [12, 13] 42 (mVar 0))))) (sRaise (mExc (.own 3) [4] (mCons (mVar 1) mNil))) sSkip)
 (sDDelM (mFld [12, 13] 42 (mVar 0)) (mVar 1)))
def m_Store_drop : FN := runF 2 b_Store_drop
def c_Store_drop : FN := fun vs h => chk 2 m_Store_drop (vs ++ []) h
def b_do_write : MS := (sSeq (sAsg (gT 3 (gsCons (gN 4) (gsCons (gN 5) (gsCons (gN 6) gsNil)))) (mVar 1))
 (sSeq (sSet 3 (mMet 13 45 c_Store_row (mVar 0) (mCons (mVar 5) mNil)))
 (sIf (mB (mBin kEq (mVar 4) (mC (.str "bear")))) (sExpr (mMet 13 51 c_Store_bear (mVar 0) (mCons (mVar 5) mNil))) (sIf (mB (mBin kEq (mVar 4) (mC (.str "make")))) (sIf (mTOr (mB (mBin kEq (mL kLen (mCons (mVar 3) mNil)) (mC (.int 0)))) (mB (mBin kEq (mVar 2) (mC (.str "take"))))) (sExpr (mMet 13 50 c_Store_put (mVar 0) (mCons (mVar 5) (mCons (mVar 6) mNil)))) sSkip) (sIf (mB (mBin kEq (mL kLen (mCons (mVar 3) mNil)) (mC (.int 1)))) (sIf (mB (mBin kEq (mVar 4) (mC (.str "drop")))) (sExpr (mMet 13 52 c_Store_drop (mVar 0) (mCons (mVar 5) mNil))) (sExpr (mMet 13 50 c_Store_put (mVar 0) (mCons (mVar 5) (mCons (mIf (mB (mBin kEq (mVar 4) (mC (.str "set")))) (mVar 6) (mBin kAdd (mBin kIx (mVar 3) (mC (.int 0))) (mVar 6))) mNil))))) sSkip)))))
def m_do_write : FN := runF 7 b_do_write
def c_do_write : FN := fun vs h => chk 3 m_do_write (vs ++ []) h
def b_Batch_write : MS := (sSeq (sSet 4 (mFld [14] 55 (mVar 0)))
 (sSeq (sFldAdd [14] 55 (mVar 0) (mC (.int 1)))
 (sSeq (sSet 5 (mMet 14 58 c_Batch_refusal (mVar 0) (mCons (mVar 1) (mCons (mVar 2) (mCons (mVar 3) mNil)))))
 (sSeq (sIf (mB (mBin kNotN (mVar 5) (mC .non))) (sRaise (mExc (.own 5) [6, 7] (mCons (mVar 4) (mCons (mVar 5) mNil)))) sSkip)
 (sExpr (mCall c_do_write (mCons (mFld [14] 54 (mVar 0)) (mCons (mL kTup (mCons (mVar 1) (mCons (mVar 2) (mCons (mVar 3) mNil)))) (mCons (mFld [14] 35 (mVar 0)) mNil)))))))))
def m_Batch_write : FN := runF 6 b_Batch_write
def c_Batch_write : FN := fun vs h => chk 4 m_Batch_write (vs ++ []) h
def b_tried : MS := (sSeq (sSet 3 (mC .non))
 (sSeq (sTryAs (sIf (mB (mVar 2)) (sExpr (mMetN 14 61 3 0 [0, 1, 2, 3] [.non] (chk 4 m_Batch_write) (mVar 0) (mCons (mBin kIx (mVar 1) (mC (.int 0))) (mCons (mBin kIx (mVar 1) (mC (.int 1))) mNil)) mNil)) (sExpr (mMetN 14 61 4 0 [0, 1, 2, 3] [.non] (chk 4 m_Batch_write) (mVar 0) (mCons (mBin kIx (mVar 1) (mC (.int 0))) (mCons (mBin kIx (mVar 1) (mC (.int 1))) (mCons (mBin kIx (mVar 1) (mC (.int 2))) mNil))) mNil))) mt5 4 (sSet 3 (mL kTup (mCons (mExF [5] 4 6) (mCons (mExF [5] 4 7) mNil)))))
 (sRet (mVar 3))))
def m_tried : FN := runF 5 b_tried
def c_tried : FN := fun vs h => chk 3 m_tried (vs ++ []) h
def b_Store_all_rows : MS := (sRet (mLc [1] (gE 1) (mIt itL (mL kSortF (mCons (mL kListDF (mCons (mFld [12, 13] 42 (mVar 0)) mNil)) mNil))) mYes (mL kTup (mCons (mVar 1) (mCons (mBin kDGet (mFld [12, 13] 42 (mVar 0)) (mVar 1)) mNil)))))
def m_Store_all_rows : FN := runF 2 b_Store_all_rows
def c_Store_all_rows : FN := fun vs h => chk 1 m_Store_all_rows (vs ++ []) h
def l0_seen : MS := (sSeq (sSet 5 (mCall c_tried (mCons (mVar 1) (mCons (mVar 4) (mCons (mBin kIsN (mBin kIx (mVar 4) (mC (.int 2))) (mC .non)) mNil)))))
 (sExpr (mBMl kAppR (mVar 3) (mCons (mL kFl (mCons (mVar 5) (mCons (mFld [14] 55 (mVar 1)) (mCons (mMet 13 47 c_Store_all_rows (mVar 0) mNil) (mCons (mMet 13 48 c_Store_all_owners (mVar 0) mNil) mNil))))) mNil))))
def b_seen : MS := (sSeq (sSet 3 (mL kLst mNil))
 (sSeq (sFor (gN 4) (mIt itL (mVar 2)) l0_seen)
 (sRet (mKill (mVar 3)))))
def m_seen : FN := runF 6 b_seen
def c_seen : FN := fun vs h => chk 3 m_seen (vs ++ []) h
def q1_law : MS := (sExpr (mBMl kAppR (mVar 13) (mCons (mL kFl (mCons (mVar 16) (mCons (mVar 14) (mCons (mLc [17] (gE 17) (mIt itL (mL kSortF (mCons (mL kListDF (mCons (mVar 8) mNil)) mNil))) mYes (mL kTup (mCons (mVar 17) (mCons (mBin kDGet (mVar 8) (mVar 17)) mNil)))) (mCons (mL kSortF (mCons (mVar 9) mNil)) mNil))))) mNil)))
def q2_law : MS := (sSeq (sAug 14 (kAugI fun i j => i + j) (mC (.int 1))) q1_law)
def q3_law : MS := (sSeq (sSet 16 (mIf (mB (mBin kIsN (mVar 15) (mC .non))) (mC .non) (mL kTup (mCons (mVar 14) (mCons (mVar 15) mNil))))) q2_law)
def q4_law : MS := (sSeq (sIf (mB (mBin kIsN (mVar 15) (mC .non))) (sExpr (mCall c_do (mCons (mVar 8) (mCons (mVar 9) (mCons (mVar 12) (mCons (mVar 10) mNil)))))) sSkip) q3_law)
def l0_law : MS := (sSeq (sSet 15 (mCall c_reason (mCons (mVar 8) (mCons (mVar 9) (mCons (mVar 12) (mCons (mVar 10) mNil)))))) q4_law)
def q5_law : MS := (sIf (mTOr (mB (mBin kNeH (mBin kIx (mVar 16) (mC (.int 0))) (mVar 13))) (mB (mBin kNeH (mFld [14] 55 (mBin kIx (mVar 16) (mC (.int 1)))) (mVar 14)))) (sRet (mC (.bl false))) sSkip)
def q6_law : MS := (sSeq (sIf (mB (mBin kEqH (mVar 10) (mL kTup (mCons (mC (.str "refuse")) (mCons (mC (.str "refuse")) mNil))))) (sSet 16 (mInB 14 0 4 [0, 1] [.str "refuse", .str "refuse"] x_in_batch (chk 1 m_Batch__enter) (chk 4 m_Batch__exit) (mL kFl (mCons (mCall c_seen (mCons (mVar 4) (mCons (mVar 18) (mCons (mVar 11) mNil)))) (mCons (mVar 18) mNil))) (mVar 4) mNil)) (sSet 16 (mInB 14 2 4 [1, 0] [.str "refuse", .str "refuse"] x_in_batch (chk 1 m_Batch__enter) (chk 4 m_Batch__exit) (mL kFl (mCons (mCall c_seen (mCons (mVar 4) (mCons (mVar 18) (mCons (mVar 11) mNil)))) (mCons (mVar 18) mNil))) (mVar 4) (mCons (mBin kIx (mVar 10) (mC (.int 1))) (mCons (mBin kIx (mVar 10) (mC (.int 0))) mNil))))) q5_law)
def q7_law : MS := (sSeq (sFor (gN 12) (mIt itL (mVar 11)) l0_law) q6_law)
def q8_law : MS := (sSeq (sPar 13 14 (mCons (mL kLst mNil) (mCons (mC (.int 0)) mNil))) q7_law)
def q9_law : MS := (sSeq (sSet 11 (mCall c_writes (mCons (mVar 2) (mCons (mVar 3) (mCons (mCall c_take (mCons (mVar 2) (mCons (mC (.int 21)) mNil))) mNil))))) q8_law)
def l1_law : MS := (sSeq (sSet 10 (mL kTup (mCons (mCall c_of (mCons (mVar 2) (mCons (mL kFl (mCons (mC (.str "refuse")) (mCons (mC (.str "pass")) (mCons (mC (.str "take")) mNil)))) mNil))) (mCons (mCall c_of (mCons (mVar 2) (mCons (mL kFl (mCons (mC (.str "refuse")) (mCons (mC (.str "pass")) mNil))) mNil))) mNil)))) q9_law)
def q10_law : MS := (sIf (mB (mBin kNeH (mMet 13 48 c_Store_all_owners (mVar 4) mNil) (mL kSortF (mCons (mVar 9) mNil)))) (sRet (mC (.bl false))) sSkip)
def q11_law : MS := (sSeq (sIf (mB (mBin kNeH (mMet 13 47 c_Store_all_rows (mVar 4) mNil) (mLc [17] (gE 17) (mIt itL (mL kSortF (mCons (mL kListDF (mCons (mVar 8) mNil)) mNil))) mYes (mL kTup (mCons (mVar 17) (mCons (mBin kDGet (mVar 8) (mVar 17)) mNil)))))) (sRet (mC (.bl false))) sSkip) q10_law)
def q12_law : MS := (sSeq (sFor (gN 5) (mRng1 (mCons (mC (.int 2)) mNil)) l1_law) q11_law)
def q13_law : MS := (sSeq (sAsg (gT 2 (gsCons (gN 8) (gsCons (gN 9) gsNil))) (mL kTup (mCons (mL kDictR (mCons (mVar 6) mNil)) (mCons (mMet 13 48 c_Store_all_owners (mVar 4) mNil) mNil)))) q12_law)
def q14_law : MS := (sSeq (sSet 4 (mMkN 13 2 0 (chkI 3 m_Store__init) [0, 1] [.tup [], .tup []] (mCons (mVar 6) (mCons (mVar 7) mNil)) mNil)) q13_law)
def q15_law : MS := (sSeq (sPar 6 7 (mCons (mCall c_rows (mCons (mVar 2) (mCons (mVar 3) mNil))) (mCons (mCall c_owners (mCons (mVar 2) (mCons (mVar 3) mNil))) mNil))) q14_law)
def q16_law : MS := (sSeq (sSet 3 (mCall c_keys (mCons (mVar 2) (mCons (mBin kAdd (mC (.int 1)) (mCall c_take (mCons (mVar 2) (mCons (mC (.int 6)) mNil)))) mNil)))) q15_law)
def l2_law : MS := (sSeq (sSet 2 (mCall c_bag (mCons (mVar 0) (mCons (mVar 1) mNil)))) q16_law)
def q17_law : MS := (sRet (mC (.bl true)))
def b_law : MS := (sSeq (sFor (gN 1) (mRng1 (mCons (mL kMax2 (mCons (mC (.int 1)) (mCons (mL kMin2 (mCons (mC (.int 5)) (mCons (mL kLen (mCons (mVar 0) mNil)) mNil))) mNil))) mNil)) l2_law) q17_law)
def m_law : FN := runF 18 b_law
def nms : List Str := (["part", "thing", "__init__", "line", "key", "word", "place", "reason", "places", "first", "state", "move", "there", "lacking", "read"] : List Str) ++ (["__call__", "__eq__", "__str__", "rules", "words", "maker", "writer", "of", "__getitem__", "__contains__", "__iter__", "__len__", "option", "value", "given"] : List Str) ++ (["owners", "notes", "doubles", "writes", "sums", "clash", "lost", "checks", "refused", "all_changes", "changes", "__or__", "kept", "born", "__setitem__"] : List Str) ++ (["row", "has_owner", "all_rows", "all_owners", "copy", "put", "bear", "drop", "batch", "home", "tried", "rows_before", "owners_before", "refusal", "__enter__"] : List Str) ++ (["__exit__", "write", "owner", "begun", "rows", "flat", "lines", "store", "parts", "sizes", "all_items", "found", "is_open", "take_owner", "take_row"] : List Str) ++ (["take", "book", "plan", "__ior__", "stores", "outcomes", "reports", "store_after", "known_rows", "known_owners", "planned", "refusals", "struck", "undone", "bears"] : List Str) ++ (["plans", "plan_deed", "write_of", "net_writes", "go_through", "written", "is_strict", "many", "strict", "looked_up", "finish", "do_all", "taken", "make_strict", "known_owner"] : List Str) ++ (["feed", "start", "rank", "keeps", "followed", "moves", "is_less", "load", "moved", "bad", "owned", "looked", "knows", "here", "unborn"] : List Str) ++ (["left", "late", "shown", "status", "refuse", "write_row", "frozen", "look", "sibling", "item", "forget", "promises", "most", "opened_chunks", "signs"] : List Str) ++ (["next_chunk", "flagged", "end", "kept_begin", "own", "opened", "gone", "let", "starts", "onward", "sight", "loader", "papers", "begins", "names"] : List Str) ++ (["sights", "roads", "is_state", "agrees", "leads", "begin", "state_of", "paper", "IS_RIGHT", "__bool__", "told", "trace", "cause", "example", "pool"] : List Str) ++ (["sets", "traces", "set_of", "least", "works", "lesser", "rule", "counted", "size", "load_chunk", "change_size"] : List Str)
theorem nms_nd : nms.Nodup := by decide +kernel
theorem nms_sz : ∀ x, x ∈ nms → x.cps.size < 50 := by decide +kernel
structure Txt (K : W.Frag) (w : World) (mg : Str → Option Value) (G : Gx) (fd : Nat → FuncData) (base : Heap) (cs : Nat → Addr × Addr) : Prop where
 tb_law : LamX.TabB base mg (cs 0).1 (cs 0).2
 gb_law : ((cs 0).2, (lamQ "law")) ∈ G.tb
 gu_law : ∀ q', ((cs 0).2, q') ∈ G.tb → q' = (lamQ "law")
 hK : K = G.K
 n0 : ("part" : Str) = G.nm 0
 n1 : ("thing" : Str) = G.nm 1
 n4 : ("key" : Str) = G.nm 4
 n6 : ("place" : Str) = G.nm 6
 n7 : ("reason" : Str) = G.nm 7
 n35 : ("clash" : Str) = G.nm 35
 n36 : ("lost" : Str) = G.nm 36
 n42 : ("kept" : Str) = G.nm 42
 n43 : ("born" : Str) = G.nm 43
 n45 : ("row" : Str) = G.nm 45
 n46 : ("has_owner" : Str) = G.nm 46
 n47 : ("all_rows" : Str) = G.nm 47
 n48 : ("all_owners" : Str) = G.nm 48
 n50 : ("put" : Str) = G.nm 50
 n51 : ("bear" : Str) = G.nm 51
 n52 : ("drop" : Str) = G.nm 52
 n53 : ("batch" : Str) = G.nm 53
 n54 : ("home" : Str) = G.nm 54
 n55 : ("tried" : Str) = G.nm 55
 n56 : ("rows_before" : Str) = G.nm 56
 n57 : ("owners_before" : Str) = G.nm 57
 n58 : ("refusal" : Str) = G.nm 58
 n61 : ("write" : Str) = G.nm 61
 F0 : Fun K "_law_bag" "_law_bag" st_bag (G.fa 0) (fd 0)
 b0 : Binds K (fd 0) ["_law_script", "_law_at"] []
 m0 : mg "_law_bag" = some (.ref (G.fa 0))
 F1 : Fun K "_law_take" "_law_take" st_take (G.fa 1) (fd 1)
 b1 : Binds K (fd 1) ["_law_bag_here", "_law_many"] []
 m1 : mg "_law_take" = some (.ref (G.fa 1))
 F2 : Fun K "_law_of" "_law_of" st_of (G.fa 2) (fd 2)
 b2 : Binds K (fd 2) ["_law_bag_here", "_law_some"] []
 m2 : mg "_law_of" = some (.ref (G.fa 2))
 F3 : Fun K "_law_names" "_law_names" st_names (G.fa 3) (fd 3)
 b3 : Binds K (fd 3) ["_law_bag_here", "_law_many"] []
 m3 : mg "_law_names" = some (.ref (G.fa 3))
 F4 : Fun K "_law_keys" "_law_keys" st_keys (G.fa 4) (fd 4)
 b4 : Binds K (fd 4) ["_law_bag_here", "_law_many"] []
 m4 : mg "_law_keys" = some (.ref (G.fa 4))
 F5 : Fun K "_law_owners" "_law_owners" st_owners (G.fa 5) (fd 5)
 b5 : Binds K (fd 5) ["_law_bag_here", "_law_keys_here"] []
 m5 : mg "_law_owners" = some (.ref (G.fa 5))
 F6 : Fun K "_law_integer" "_law_integer" st_integer (G.fa 6) (fd 6)
 b6 : Binds K (fd 6) ["_law_bag_here"] []
 m6 : mg "_law_integer" = some (.ref (G.fa 6))
 F7 : Fun K "_law_rows" "_law_rows" st_rows (G.fa 7) (fd 7)
 b7 : Binds K (fd 7) ["_law_bag_here", "_law_keys_here"] []
 m7 : mg "_law_rows" = some (.ref (G.fa 7))
 F8 : Fun K "is_name" "is_name" st_is_name (G.fa 8) (fd 8)
 b8 : Binds K (fd 8) ["thing"] []
 m8 : mg "is_name" = some (.ref (G.fa 8))
 F9 : Fun K "is_key" "is_key" st_is_key (G.fa 9) (fd 9)
 b9 : Binds K (fd 9) ["thing"] []
 m9 : mg "is_key" = some (.ref (G.fa 9))
 F10 : Fun K "__init__" "InvalidPart.__init__" st_InvalidPart__init (G.fa 10) (fd 10)
 b10 : Binds K (fd 10) ["self", "part", "thing"] []
 F11 : Fun K "is_integer" "is_integer" st_is_integer (G.fa 11) (fd 11)
 b11 : Binds K (fd 11) ["thing"] []
 m11 : mg "is_integer" = some (.ref (G.fa 11))
 F12 : Fun K "checked_rows" "checked_rows" st_checked_rows (G.fa 12) (fd 12)
 b12 : Binds K (fd 12) ["rows"] []
 m12 : mg "checked_rows" = some (.ref (G.fa 12))
 F13 : Fun K "owner_of" "owner_of" st_owner_of (G.fa 13) (fd 13)
 b13 : Binds K (fd 13) ["key"] []
 m13 : mg "owner_of" = some (.ref (G.fa 13))
 F14 : Fun K "checked_owners" "checked_owners" st_checked_owners (G.fa 14) (fd 14)
 b14 : Binds K (fd 14) ["kept", "owners"] []
 m14 : mg "checked_owners" = some (.ref (G.fa 14))
 F15 : ∃ TE15_0 : Addr, ∃ TE15_1 : Addr, FunD K "__init__" "Store.__init__" (defArgs st_Store__init) (defBody st_Store__init) (defScope st_Store__init) ([V.ref TE15_0, V.ref TE15_1] : List V) [] (G.fa 15) (fd 15)
 kb15_0 : KBD G K (fd 15) ["self", "rows", "owners"] 3 [] (0 :: ([0, 1] : List Nat).map (· + 1)) [.tup [], .tup []]
 F16 : Fun K "all_owners" "Store.all_owners" st_Store_all_owners (G.fa 16) (fd 16)
 b16 : Binds K (fd 16) ["self"] []
 F17 : Fun K "_law_value" "_law_value" st_value (G.fa 17) (fd 17)
 b17 : Binds K (fd 17) ["_law_bag_here"] []
 m17 : mg "_law_value" = some (.ref (G.fa 17))
 F18 : Fun K "_law_writes" "_law_writes" st_writes (G.fa 18) (fd 18)
 b18 : Binds K (fd 18) ["_law_bag_here", "_law_keys_here", "_law_many"] []
 m18 : mg "_law_writes" = some (.ref (G.fa 18))
 F19 : Fun K "_law_reason" "_law_reason" st_reason (G.fa 19) (fd 19)
 b19 : Binds K (fd 19) ["_law_rows_here", "_law_owners_here", "_law_write", "_law_choice"] []
 m19 : mg "_law_reason" = some (.ref (G.fa 19))
 F20 : Fun K "_law_do" "_law_do" st_do (G.fa 20) (fd 20)
 b20 : Binds K (fd 20) ["_law_rows_here", "_law_owners_here", "_law_write", "_law_choice"] []
 m20 : mg "_law_do" = some (.ref (G.fa 20))
 F21 : Fun K "__init__" "Batch.__init__" st_Batch__init (G.fa 21) (fd 21)
 b21 : Binds K (fd 21) ["self", "home", "clash", "lost"] []
 F22 : FunD K "batch" "Store.batch" (defArgs st_Store_batch) (defBody st_Store_batch) (defScope st_Store_batch) ([] : List V) [("clash", V.str "refuse"), ("lost", V.str "refuse")] (G.fa 22) (fd 22)
 kb22_0 : KBD G K (fd 22) ["self", "clash", "lost"] 1 ["clash", "lost"] [0, 1, 2] [.str "refuse", .str "refuse"]
 F23 : Fun K "__enter__" "Batch.__enter__" st_Batch__enter (G.fa 23) (fd 23)
 b23 : Binds K (fd 23) ["self"] []
 F24 : Fun K "__exit__" "Batch.__exit__" st_Batch__exit (G.fa 24) (fd 24)
 b24 : Binds K (fd 24) ["self", "kind", "value", "trace"] []
 F25 : FunD K "in_batch" "in_batch" (defArgs st_in_batch) (defBody st_in_batch) (defScope st_in_batch) ([] : List V) [("clash", V.str "refuse"), ("lost", V.str "refuse")] (G.fa 25) (fd 25)
 kb25_0 : KBD G K (fd 25) ["store", "steps", "clash", "lost"] 2 [] [0, 1, 2, 3] [.str "refuse", .str "refuse"]
 kb25_1 : KBD G K (fd 25) ["store", "steps", "clash", "lost"] 2 ["lost", "clash"] [0, 1, 3, 2] [.str "refuse", .str "refuse"]
 m25 : mg "in_batch" = some (.ref (G.fa 25))
 F26 : Fun K "has_owner" "Store.has_owner" st_Store_has_owner (G.fa 26) (fd 26)
 b26 : Binds K (fd 26) ["self", "name"] []
 F27 : Fun K "row" "Store.row" st_Store_row (G.fa 27) (fd 27)
 b27 : Binds K (fd 27) ["self", "key"] []
 F28 : Fun K "reason_of" "reason_of" st_reason_of (G.fa 28) (fd 28)
 b28 : Binds K (fd 28) ["store", "write", "clash", "lost"] []
 m28 : mg "reason_of" = some (.ref (G.fa 28))
 F29 : Fun K "refusal" "Batch.refusal" st_Batch_refusal (G.fa 29) (fd 29)
 b29 : Binds K (fd 29) ["self", "deed", "name", "value"] []
 F30 : Fun K "__init__" "WriteRefused.__init__" st_WriteRefused__init (G.fa 30) (fd 30)
 b30 : Binds K (fd 30) ["self", "place", "reason"] []
 F31 : Fun K "bear" "Store.bear" st_Store_bear (G.fa 31) (fd 31)
 b31 : Binds K (fd 31) ["self", "name"] []
 F32 : Fun K "put" "Store.put" st_Store_put (G.fa 32) (fd 32)
 b32 : Binds K (fd 32) ["self", "key", "value"] []
 F33 : Fun K "__init__" "Missing.__init__" st_Missing__init (G.fa 33) (fd 33)
 b33 : Binds K (fd 33) ["self", "key"] []
 F34 : Fun K "drop" "Store.drop" st_Store_drop (G.fa 34) (fd 34)
 b34 : Binds K (fd 34) ["self", "key"] []
 F35 : Fun K "do_write" "do_write" st_do_write (G.fa 35) (fd 35)
 b35 : Binds K (fd 35) ["store", "write", "clash"] []
 m35 : mg "do_write" = some (.ref (G.fa 35))
 F36 : FunD K "write" "Batch.write" (defArgs st_Batch_write) (defBody st_Batch_write) (defScope st_Batch_write) ([V.non] : List V) [] (G.fa 36) (fd 36)
 kb36_0 : KBD G K (fd 36) ["self", "deed", "name", "value"] 3 [] [0, 1, 2, 3] [.non]
 kb36_1 : KBD G K (fd 36) ["self", "deed", "name", "value"] 4 [] [0, 1, 2, 3] [.non]
 F37 : Fun K "_law_tried" "_law_tried" st_tried (G.fa 37) (fd 37)
 b37 : Binds K (fd 37) ["_law_batch", "_law_write", "_law_plainly"] []
 m37 : mg "_law_tried" = some (.ref (G.fa 37))
 F38 : Fun K "all_rows" "Store.all_rows" st_Store_all_rows (G.fa 38) (fd 38)
 b38 : Binds K (fd 38) ["self"] []
 F39 : Fun K "_law_seen" "_law_seen" st_seen (G.fa 39) (fd 39)
 b39 : Binds K (fd 39) ["_law_store", "_law_batch", "_law_writes_here"] []
 m39 : mg "_law_seen" = some (.ref (G.fa 39))
 F40 : FunC K "law" "law" st_law (G.fa 40) (fd 40) (.ref (cs 0).1)
 b40 : Binds K (fd 40) ["_law_script"] []
 m40 : mg "law" = some (.ref (G.fa 40))
 mc12 : mg "Content" = some (.ref (G.ca 12))
 mc13 : mg "Store" = some (.ref (G.ca 13))
 mc1 : mg "InvalidPart" = some (.ref (G.ca 1))
 mc14 : mg "Batch" = some (.ref (G.ca 14))
 mc5 : mg "WriteRefused" = some (.ref (G.ca 5))
 mc3 : mg "Missing" = some (.ref (G.ca 3))
 z_abs : mg "abs" = none
 z_bool : mg "bool" = none
 z_dict : mg "dict" = none
 z_enumerate : mg "enumerate" = none
 z_int : mg "int" = none
 z_isinstance : mg "isinstance" = none
 z_len : mg "len" = none
 z_list : mg "list" = none
 z_max : mg "max" = none
 z_min : mg "min" = none
 z_range : mg "range" = none
 z_sorted : mg "sorted" = none
 z_str : mg "str" = none
 gc_GREATEST : ∃ w, mg "GREATEST" = some w ∧ L2.RelV (V.int (999999999999999999999999999999)) w
 gc_LETTERS : ∃ w, mg "LETTERS" = some w ∧ L2.RelV (V.str "abcdefghijklmnopqrstuvwxyz") w
 gc_MOST_SIGNS : ∃ w, mg "MOST_SIGNS" = some w ∧ L2.RelV (V.int (8)) w
 cl12 : Cls K (G.ca 12)
 cl13 : Cls K (G.ca 13)
 cl14 : Cls K (G.ca 14)
 fo14_35 : FldOk G K 35 14
 fo14_54 : FldOk G K 54 14
 fo14_36 : FldOk G K 36 14
 fo14_57 : FldOk G K 57 14
 fo14_56 : FldOk G K 56 14
 fo14_55 : FldOk G K 55 14
 fo12_43 : FldOk G K 43 12
 fo12_42 : FldOk G K 42 12
 fo13_43 : FldOk G K 43 13
 fo13_42 : FldOk G K 42 13
 mk13 : Mk K (G.ca 13) (G.fa 15)
 mk14 : Mk K (G.ca 14) (G.fa 21)
 me14_58 : Meth K (G.ca 14) "refusal" (G.fa 29)
 me14_61 : Meth K (G.ca 14) "write" (G.fa 36)
 me13_48 : Meth K (G.ca 13) "all_owners" (G.fa 16)
 me13_47 : Meth K (G.ca 13) "all_rows" (G.fa 38)
 me13_53 : Meth K (G.ca 13) "batch" (G.fa 22)
 me13_51 : Meth K (G.ca 13) "bear" (G.fa 31)
 me13_52 : Meth K (G.ca 13) "drop" (G.fa 34)
 me13_46 : Meth K (G.ca 13) "has_owner" (G.fa 26)
 me13_50 : Meth K (G.ca 13) "put" (G.fa 32)
 me13_45 : Meth K (G.ca 13) "row" (G.fa 27)
 oc14_enter : OwnM K (G.ca 14) "__enter__" (G.fa 23)
 oc14_exit : OwnM K (G.ca 14) "__exit__" (G.fa 24)
 oex1 : OexC K (G.ca 1)
 xi1 : W.findIn K (.ref (G.ca 1)) "__init__" = some (some (.ref (G.fa 10)))
 xt1 : W.typeIn K (.ref (G.fa 10)) = some (.type "function")
 xn1_0 : W.findIn K (.ref (G.ca 1)) "part" = some none
 xn1_1 : W.findIn K (.ref (G.ca 1)) "thing" = some none
 oex3 : OexC K (G.ca 3)
 xi3 : W.findIn K (.ref (G.ca 3)) "__init__" = some (some (.ref (G.fa 33)))
 xt3 : W.typeIn K (.ref (G.fa 33)) = some (.type "function")
 xn3_4 : W.findIn K (.ref (G.ca 3)) "key" = some none
 oex5 : OexC K (G.ca 5)
 xi5 : W.findIn K (.ref (G.ca 5)) "__init__" = some (some (.ref (G.fa 30)))
 xt5 : W.typeIn K (.ref (G.fa 30)) = some (.type "function")
 xn5_6 : W.findIn K (.ref (G.ca 5)) "place" = some none
 xn5_7 : W.findIn K (.ref (G.ca 5)) "reason" = some none
 xf5_6 : XfOk G K 6 5
 xf5_7 : XfOk G K 7 5
 mt5 : ∀ y b, mt5 y = some b → W.exmOne K (G.xv y) (.ref (G.ca 5)) = some b
 kit : KitOk G K kt
 kitE : KitX2 G K ktE
section
variable {P : Program} {w : World} {K : W.Frag} {mg : Str → Option Value} {base : Heap} {G : Gx} {fd : Nat → FuncData} {cs : Nat → Addr × Addr}
theorem sc_bag : FnScope ["_law_script", "_law_at", "_law_cell", "_law_mixed", "_law_k", "_law_each"] ["_law_script", "_law_at"] (defScope st_bag) := ⟨rfl, rfl, rfl, by decide +kernel, rfl, by decide +kernel, by decide +kernel⟩
theorem ok_bag (T : Txt K w mg G fd base cs) : FnOk P w K mg base (L2.CX P w) 1 (G.fa 0) (fd 0) ["_law_script", "_law_at"] (spF G 2 m_bag) :=
 ok_fn (B := ⟨0, .none, none, 0⟩) T.F0 sc_bag fun cdv A outer s H E zs hr tk =>
 (iss_cons (is_set 2 sc_bag.nd (ie_if (it_cmp op_lt (ao_cmp _) (ie_var 1) (ie_callB call_len (ao_len T.hK) rfl T.z_len (by rfl) (ia_cons (ie_var 0) ia_nil))) (ie_ix ix_seq (ao_ix T.hK) (ie_var 0) (ie_var 1)) ie_int))
 (iss_cons (is_set 3 sc_bag.nd (ie_op op_addA (ao_add T.hK) (ie_op op_mulA ao_mul ie_int (ie_var 1)) ie_int))
 (iss_cons (is_for (ms := l0_bag) (passes_of rfl) rfl (ii_enumA T.hK T.z_enumerate (ia_cons (ie_sl T.hK (ie_var 0) IO.non (IO.som ie_int)) ia_nil)) (ig_tup T.hK rfl (igs_cons (ig_name 4 sc_bag.nd) (igs_cons (ig_name 5 sc_bag.nd) igs_nil))) (iss_one (is_set 3 sc_bag.nd (ie_op op_mod ao_mod (ie_callTy call_int1 ao_int rfl T.z_int (by rfl) (ia_cons (ie_op op_addA (ao_add T.hK) (ie_op op_addA (ao_add T.hK) (ie_op op_mulA ao_mul (ie_var 3) ie_int) (ie_op op_mod ao_mod (ie_callTy call_int1 ao_int rfl T.z_int (by rfl) (ia_cons (ie_var 5) ia_nil)) ie_int)) (ie_op op_mulA ao_mul ie_int (ie_var 4))) ia_nil)) ie_int))))
 (iss_one (is_ret (ie_lst (ia_cons (ie_if (it_cmp op_ge (ao_cmp _) (ie_callB call_abs ao_abs rfl T.z_abs (by rfl) (ia_cons (ie_var 2) ia_nil)) (ie_op op_pow ao_pow ie_int ie_int)) (ie_callB call_abs ao_abs rfl T.z_abs (by rfl) (ia_cons (ie_var 2) ia_nil)) ie_int) (ia_cons (ie_var 3) ia_nil))))))))
theorem sc_take : FnScope ["_law_bag_here", "_law_many", "_law_digit"] ["_law_bag_here", "_law_many"] (defScope st_take) := ⟨rfl, rfl, rfl, by decide +kernel, rfl, by decide +kernel, by decide +kernel⟩
theorem ok_take (T : Txt K w mg G fd base cs) : FnOk P w K mg base (L2.CX P w) 1 (G.fa 1) (fd 1) ["_law_bag_here", "_law_many"] (spF G 2 m_take) :=
 ok_fn (B := ⟨0, .none, none, 0⟩) T.F1 sc_take fun cdv A outer s H E zs hr tk =>
 (iss_cons (is_if (it_cmp op_gt (ao_cmp _) (ie_ix ix_seq (ao_ix T.hK) (ie_var 0) ie_int) ie_int) (iss_cons (is_set 2 sc_take.nd (ie_op op_mod ao_mod (ie_callTy call_int1 ao_int rfl T.z_int (by rfl) (ia_cons (ie_ix ix_seq (ao_ix T.hK) (ie_var 0) ie_int) ia_nil)) (ie_var 1)))
 (iss_cons (is_setix (ie_op op_fdivW ao_fdiv (ie_ix ix_seq (ao_ix T.hK) (ie_var 0) ie_int) (ie_var 1)) (ie_var 0) ie_int)
 (iss_one (is_ret (ie_var 2))))) iss_nil)
 (iss_cons (is_setix (ie_op op_mod ao_mod (ie_callTy call_int1 ao_int rfl T.z_int (by rfl) (ia_cons (ie_op op_addA (ao_add T.hK) (ie_op op_mulA ao_mul (ie_ix ix_seq (ao_ix T.hK) (ie_var 0) ie_int) ie_int) ie_int) ia_nil)) ie_int) (ie_var 0) ie_int)
 (iss_one (is_ret (ie_op op_mod ao_mod (ie_op op_fdivW ao_fdiv (ie_op op_mod ao_mod (ie_callTy call_int1 ao_int rfl T.z_int (by rfl) (ia_cons (ie_op op_mulA ao_mul (ie_op op_fdivW ao_fdiv (ie_ix ix_seq (ao_ix T.hK) (ie_var 0) ie_int) ie_int) ie_int) ia_nil)) ie_int) ie_int) (ie_var 1))))))
theorem sc_of : FnScope ["_law_bag_here", "_law_some"] ["_law_bag_here", "_law_some"] (defScope st_of) := ⟨rfl, rfl, rfl, by decide +kernel, rfl, by decide +kernel, by decide +kernel⟩
theorem ok_of (T : Txt K w mg G fd base cs) : FnOk P w K mg base (L2.CX P w) 2 (G.fa 2) (fd 2) ["_law_bag_here", "_law_some"] (spF G 2 m_of) :=
 ok_fn (B := ⟨0, .none, none, 0⟩) T.F2 sc_of fun cdv A outer s H E zs hr tk =>
 (iss_one (is_ret (ie_ix ix_seq (ao_ix T.hK) (ie_var 1) (ie_call (ok_take T) (hr.mono (by decide)) tk T.m1 T.F1.kp T.b1 .nil gvs_nil (ia_cons (ie_var 0) (ia_cons (ie_callB call_len (ao_len T.hK) rfl T.z_len (by rfl) (ia_cons (ie_var 1) ia_nil)) ia_nil))))))
theorem sc_names : FnScope ["_law_bag_here", "_law_many", "_law_is_ahead", "_law_turn", "_law_left", "_law_found", "_law_stem", "_law_sign"] ["_law_bag_here", "_law_many"] (defScope st_names) := ⟨rfl, rfl, rfl, by decide +kernel, rfl, by decide +kernel, by decide +kernel⟩
theorem ok_names (T : Txt K w mg G fd base cs) : FnOk P w K mg base (L2.CX P w) 3 (G.fa 3) (fd 3) ["_law_bag_here", "_law_many"] (spF G 2 m_names) :=
 ok_fn (B := ⟨0, .none, none, 0⟩) T.F3 sc_names fun cdv A outer s H E zs hr tk =>
 (iss_cons (is_par3 4 5 6 sc_names.nd (ia_cons (ie_callTy (call_listA rfl) (ao_listR T.hK) rfl T.z_list (by rfl) (ia_cons ie_str ia_nil)) (ia_cons (ie_lst ia_nil) (ia_cons ie_str ia_nil))))
 (iss_cons (is_set 2 sc_names.nd (ie_cmp (op_eqD hr.units) (ao_eq T.hK) (ie_call (ok_take T) (hr.mono (by decide)) tk T.m1 T.F1.kp T.b1 .nil gvs_nil (ia_cons (ie_var 0) (ia_cons ie_int ia_nil))) ie_int))
 (iss_cons (is_for (ms := l0_names) (passes_of rfl) rfl (ii_range1 T.z_range (ia_cons (ie_call (ok_take T) (hr.mono (by decide)) tk T.m1 T.F1.kp T.b1 .nil gvs_nil (ia_cons (ie_var 0) (ia_cons ie_int ia_nil))) ia_nil)) (ig_name 3 sc_names.nd) (iss_one (is_set 6 sc_names.nd (ie_op op_addA (ao_add T.hK) (ie_var 6) (ie_call (ok_of T) (hr.mono (by decide)) tk T.m2 T.F2.kp T.b2 .nil gvs_nil (ia_cons (ie_var 0) (ia_cons (ie_fl (ia_cons ie_str (ia_cons ie_str (ia_cons ie_str (ia_cons ie_str ia_nil))))) ia_nil)))))))
 (iss_cons (is_for (ms := l1_names) (passes_of rfl) rfl (ii_range1 T.z_range (ia_cons (ie_var 1) ia_nil)) (ig_name 3 sc_names.nd) (iss_cons (is_set 7 sc_names.nd (ie_popR (ie_var 4) (ia_cons (ie_call (ok_take T) (hr.mono (by decide)) tk T.m1 T.F1.kp T.b1 .nil gvs_nil (ia_cons (ie_var 0) (ia_cons (ie_callB call_len (ao_len T.hK) rfl T.z_len (by rfl) (ia_cons (ie_var 4) ia_nil)) ia_nil))) ia_nil)))
 (iss_one (is_expr (ie_appR (ie_var 5) (ia_cons (ie_if (it_of (ie_var 2)) (ie_op op_addA (ao_add T.hK) (ie_var 7) (ie_var 6)) (ie_op op_addA (ao_add T.hK) (ie_var 6) (ie_var 7))) ia_nil))))))
 (iss_one (is_ret (ie_kill (ie_var 5))))))))
theorem sc_keys : FnScope ["_law_bag_here", "_law_many", "_law_owners_here", "_law_name"] ["_law_bag_here", "_law_many"] (defScope st_keys) := ⟨rfl, rfl, rfl, by decide +kernel, rfl, by decide +kernel, by decide +kernel⟩
theorem ok_keys (T : Txt K w mg G fd base cs) : FnOk P w K mg base (L2.CX P w) 4 (G.fa 4) (fd 4) ["_law_bag_here", "_law_many"] (spF G 2 m_keys) :=
 ok_fn (B := ⟨0, .none, none, 0⟩) T.F4 sc_keys fun cdv A outer s H E zs hr tk =>
 (iss_cons (is_set 2 sc_keys.nd (ie_call (ok_names T) (hr.mono (by decide)) tk T.m3 T.F3.kp T.b3 .nil gvs_nil (ia_cons (ie_var 0) (ia_cons (ie_op op_addA (ao_add T.hK) ie_int (ie_call (ok_take T) (hr.mono (by decide)) tk T.m1 T.F1.kp T.b1 .nil gvs_nil (ia_cons (ie_var 0) (ia_cons ie_int ia_nil)))) ia_nil))))
 (iss_one (is_ret (ie_lc [(("_law_name" : Str), 3)] sc_keys.nd (by show BlkOk ["_law_bag_here", "_law_many", "_law_owners_here", "_law_name"] (defScope st_keys) _ _; exact ⟨rfl, by decide +kernel, by decide +kernel, by decide +kernel, by decide +kernel⟩) (ii_list T.hK (ie_call (ok_names T) (hr.mono (by decide)) tk T.m3 T.F3.kp T.b3 .nil gvs_nil (ia_cons (ie_var 0) (ia_cons (ie_var 1) ia_nil)))) (fun s H C cl fp => (ige_name 3 sc_keys.nd)) (fun s H C cl fp => its_nil) (fun s H C cl fp => (ie_op op_addA (ao_add T.hK) (ie_op op_addA (ao_add T.hK) (ie_call (ok_of T) (hr.mono (by decide)) take0 T.m2 T.F2.kp T.b2 .nil gvs_nil (ia_cons (ie_var 0) (ia_cons (ie_var 2) ia_nil))) ie_str) (ie_var 3)))))))
theorem sc_owners : FnScope ["_law_bag_here", "_law_keys_here", "_law_owners_here", "_law_key"] ["_law_bag_here", "_law_keys_here"] (defScope st_owners) := ⟨rfl, rfl, rfl, by decide +kernel, rfl, by decide +kernel, by decide +kernel⟩
theorem ok_owners (T : Txt K w mg G fd base cs) : FnOk P w K mg base (L2.CX P w) 2 (G.fa 5) (fd 5) ["_law_bag_here", "_law_keys_here"] (spF G 2 m_owners) :=
 ok_fn (B := ⟨0, .none, none, 0⟩) T.F5 sc_owners fun cdv A outer s H E zs hr tk =>
 (iss_cons (is_set 2 sc_owners.nd (ie_lst ia_nil))
 (iss_cons (is_for (ms := l0_owners) (passes_of rfl) rfl (ii_list T.hK (ie_var 1)) (ig_name 3 sc_owners.nd) (iss_one (is_if (it_cmp (op_eqD hr.units) (ao_eq T.hK) (ie_call (ok_take T) (hr.mono (by decide)) tk T.m1 T.F1.kp T.b1 .nil gvs_nil (ia_cons (ie_var 0) (ia_cons ie_int ia_nil))) ie_int) (iss_one (is_expr (ie_appR (ie_var 2) (ia_cons (ie_ix ix_seq (ao_ix T.hK) (ie_partition (ie_var 3) ie_str) ie_int) ia_nil)))) iss_nil)))
 (iss_one (is_ret (ie_var 2)))))
theorem sc_integer : FnScope ["_law_bag_here", "_law_choice", "_law_far"] ["_law_bag_here"] (defScope st_integer) := ⟨rfl, rfl, rfl, by decide +kernel, rfl, by decide +kernel, by decide +kernel⟩
theorem ok_integer (T : Txt K w mg G fd base cs) : FnOk P w K mg base (L2.CX P w) 2 (G.fa 6) (fd 6) ["_law_bag_here"] (spF G 1 m_integer) :=
 ok_fn (B := ⟨0, .none, none, 0⟩) T.F6 sc_integer fun cdv A outer s H E zs hr tk =>
 (iss_cons (is_set 1 sc_integer.nd (ie_call (ok_take T) (hr.mono (by decide)) tk T.m1 T.F1.kp T.b1 .nil gvs_nil (ia_cons (ie_var 0) (ia_cons ie_int ia_nil))))
 (iss_cons (is_if (it_cmp op_lt (ao_cmp _) (ie_var 1) ie_int) (iss_one (is_ret (ie_ix ix_seq (ao_ix T.hK) (ie_fl (ia_cons ie_int (ia_cons ie_int (ia_cons (ie_un un_neg ao_neg ie_int) (ia_cons (ie_op op_sub ao_sub (ie_op op_pow ao_pow ie_int ie_int) ie_int) (ia_cons (ie_op op_sub ao_sub ie_int (ie_op op_pow ao_pow ie_int ie_int)) ia_nil)))))) (ie_var 1)))) iss_nil)
 (iss_cons (is_set 2 sc_integer.nd (ie_call (ok_take T) (hr.mono (by decide)) tk T.m1 T.F1.kp T.b1 .nil gvs_nil (ia_cons (ie_var 0) (ia_cons (ie_op op_pow ao_pow ie_int ie_int) ia_nil))))
 (iss_one (is_ret (ie_if (it_cmp (op_eqD hr.units) (ao_eq T.hK) (ie_var 1) ie_int) (ie_var 2) (ie_op op_sub ao_sub ie_int (ie_var 2))))))))
theorem sc_rows : FnScope ["_law_bag_here", "_law_keys_here", "_law_rows_here", "_law_key"] ["_law_bag_here", "_law_keys_here"] (defScope st_rows) := ⟨rfl, rfl, rfl, by decide +kernel, rfl, by decide +kernel, by decide +kernel⟩
theorem ok_rows (T : Txt K w mg G fd base cs) : FnOk P w K mg base (L2.CX P w) 3 (G.fa 7) (fd 7) ["_law_bag_here", "_law_keys_here"] (spF G 2 m_rows) :=
 ok_fn (B := ⟨0, .none, none, 0⟩) T.F7 sc_rows fun cdv A outer s H E zs hr tk =>
 (iss_cons (is_set 2 sc_rows.nd (ie_lst ia_nil))
 (iss_cons (is_for (ms := l0_rows) (passes_of rfl) rfl (ii_list T.hK (ie_var 1)) (ig_name 3 sc_rows.nd) (iss_one (is_if (it_cmp (op_eqD hr.units) (ao_eq T.hK) (ie_call (ok_take T) (hr.mono (by decide)) tk T.m1 T.F1.kp T.b1 .nil gvs_nil (ia_cons (ie_var 0) (ia_cons ie_int ia_nil))) ie_int) (iss_one (is_expr (ie_appR (ie_var 2) (ia_cons (ie_tup (ia_cons (ie_var 3) (ia_cons (ie_call (ok_integer T) (hr.mono (by decide)) tk T.m6 T.F6.kp T.b6 .nil gvs_nil (ia_cons (ie_var 0) ia_nil)) ia_nil))) ia_nil)))) iss_nil)))
 (iss_one (is_ret (ie_var 2)))))
theorem sc_is_name : FnScope ["thing", "sign"] ["thing"] (defScope st_is_name) := ⟨rfl, rfl, rfl, by decide +kernel, rfl, by decide +kernel, by decide +kernel⟩
theorem ok_is_name (T : Txt K w mg G fd base cs) : FnOk P w K mg base (L2.CX P w) 1 (G.fa 8) (fd 8) ["thing"] (spF G 1 m_is_name) :=
 ok_fn (B := ⟨0, .none, none, 0⟩) T.F8 sc_is_name fun cdv A outer s H E zs hr tk =>
 (iss_cons (is_if (IW.it (iw_or (it_not (it_of (ie_callB call_isi (ao_isi T.hK T.kit) rfl T.z_isinstance (by rfl) (ia_cons (ie_var 0) (ia_cons (ie_ty rfl T.z_str rfl) ia_nil))))) (iw_or1 (it_not (it_chain op_le (ao_cmp _) op_le (ao_cmp _) ie_int (ie_callB call_len (ao_len T.hK) rfl T.z_len (by rfl) (ia_cons (ie_var 0) ia_nil)) (let ⟨_, hm, hr⟩ := T.gc_MOST_SIGNS; ie_glob rfl hm hr gv_int)))))) (iss_one (is_ret ie_bl)) iss_nil)
 (iss_cons (is_for (ms := l0_is_name) (passes_of rfl) rfl (ii_str (ie_var 0)) (ig_name 1 sc_is_name.nd) (iss_one (is_if (it_cmp op_notInS (ao_inS true) (ie_var 1) (let ⟨_, hm, hr⟩ := T.gc_LETTERS; ie_glob rfl hm hr gv_str)) (iss_one (is_ret ie_bl)) iss_nil)))
 (iss_one (is_ret ie_bl))))
theorem sc_is_key : FnScope ["thing", "owner", "middle", "name"] ["thing"] (defScope st_is_key) := ⟨rfl, rfl, rfl, by decide +kernel, rfl, by decide +kernel, by decide +kernel⟩
theorem ok_is_key (T : Txt K w mg G fd base cs) : FnOk P w K mg base (L2.CX P w) 2 (G.fa 9) (fd 9) ["thing"] (spF G 1 m_is_key) :=
 ok_fn (B := ⟨0, .none, none, 0⟩) T.F9 sc_is_key fun cdv A outer s H E zs hr tk =>
 (iss_cons (is_if (it_not (it_of (ie_callB call_isi (ao_isi T.hK T.kit) rfl T.z_isinstance (by rfl) (ia_cons (ie_var 0) (ia_cons (ie_ty rfl T.z_str rfl) ia_nil))))) (iss_one (is_ret ie_bl)) iss_nil)
 (iss_cons (is_asg (ie_partition (ie_var 0) ie_str) (ig_tup T.hK rfl (igs_cons (ig_name 1 sc_is_key.nd) (igs_cons (ig_name 2 sc_is_key.nd) (igs_cons (ig_name 3 sc_is_key.nd) igs_nil)))))
 (iss_one (is_ret (ie_and (ie_cmp (op_eqD hr.units) (ao_eq T.hK) (ie_var 2) ie_str) (ie_and (ie_call (ok_is_name T) (hr.mono (by decide)) tk T.m8 T.F8.kp T.b8 .nil gvs_nil (ia_cons (ie_var 1) ia_nil)) (ie_one (ie_call (ok_is_name T) (hr.mono (by decide)) tk T.m8 T.F8.kp T.b8 .nil gvs_nil (ia_cons (ie_var 3) ia_nil)))))))))
theorem sc_InvalidPart__init : FnScope ["self", "part", "thing"] ["self", "part", "thing"] (defScope st_InvalidPart__init) := ⟨rfl, rfl, rfl, by decide +kernel, rfl, by decide +kernel, by decide +kernel⟩
theorem ok_InvalidPart__init_InvalidPart (T : Txt K w mg G fd base cs) : FnOk P w K mg base (L2.CX P w) 1 (G.fa 10) (fd 10) ["self", "part", "thing"] (spE (G.ca 1) ([0, 1].map G.nm)) := by
 rw [show (([0, 1] : List Nat).map G.nm) = (["part", "thing"] : List Str) from by simp only [List.map, T.n0, T.n1]]
 exact ok_einit2 (P := P) (w := w) (mg := mg) (base := base) T.F10 sc_InvalidPart__init T.oex1 T.xn1_0 T.xn1_1 rfl (.inl rfl) (.inl rfl) (.inl rfl) (by decide) (by decide) (by decide) (by decide) (by decide) (by decide)
theorem sc_is_integer : FnScope ["thing"] ["thing"] (defScope st_is_integer) := ⟨rfl, rfl, rfl, by decide +kernel, rfl, by decide +kernel, by decide +kernel⟩
theorem ok_is_integer (T : Txt K w mg G fd base cs) : FnOk P w K mg base (L2.CX P w) 1 (G.fa 11) (fd 11) ["thing"] (spF G 1 m_is_integer) :=
 ok_fn (B := ⟨0, .none, none, 0⟩) T.F11 sc_is_integer fun cdv A outer s H E zs hr tk =>
 (iss_one (is_ret (ie_and (ie_callB call_isi (ao_isi T.hK T.kit) rfl T.z_isinstance (by rfl) (ia_cons (ie_var 0) (ia_cons (ie_ty rfl T.z_int rfl) ia_nil))) (ie_and (ie_not (ie_callB call_isi (ao_isi T.hK T.kit) rfl T.z_isinstance (by rfl) (ia_cons (ie_var 0) (ia_cons (ie_ty rfl T.z_bool rfl) ia_nil)))) (ie_one (ie_chain op_le (ao_cmp _) op_le (ao_cmp _) (ie_un un_neg ao_neg (let ⟨_, hm, hr⟩ := T.gc_GREATEST; ie_glob rfl hm hr gv_int)) (ie_var 0) (let ⟨_, hm, hr⟩ := T.gc_GREATEST; ie_glob rfl hm hr gv_int)))))))
theorem sc_checked_rows : FnScope ["rows", "kept", "key", "value"] ["rows"] (defScope st_checked_rows) := ⟨rfl, rfl, rfl, by decide +kernel, rfl, by decide +kernel, by decide +kernel⟩
theorem ok_checked_rows (T : Txt K w mg G fd base cs) : FnOk P w K mg base (L2.CX P w) 3 (G.fa 12) (fd 12) ["rows"] (spF G 1 m_checked_rows) :=
 ok_fn (B := ⟨0, .none, none, 0⟩) T.F12 sc_checked_rows fun cdv A outer s H E zs hr tk =>
 (iss_cons (is_set 1 sc_checked_rows.nd ie_dnew)
 (iss_cons (is_forD (ms := l0_checked_rows) 100 (passes_of rfl) rfl (iiD_seq T.hK (ie_var 0)) (ig_tup T.hK rfl (igs_cons (ig_name 2 sc_checked_rows.nd) (igs_cons (ig_name 3 sc_checked_rows.nd) igs_nil))) (iss_cons (is_if (IW.it (iw_or (it_not (it_of (ie_call (ok_is_key T) (hr.mono (by decide)) tk T.m9 T.F9.kp T.b9 .nil gvs_nil (ia_cons (ie_var 2) ia_nil)))) (iw_or1 (it_cmp (op_inDict (hu_of hr)) (ao_inDict false) (ie_var 2) (ie_var 1))))) (iss_one (is_raise rfl tk (ix_mk T.oex1 T.xi1 T.xt1 (ok_InvalidPart__init_InvalidPart T) (hr.mono (by decide)) T.b10 T.mc1 (ia_cons ie_str (ia_cons (ie_var 2) ia_nil))))) iss_nil)
 (iss_cons (is_if (it_not (it_of (ie_call (ok_is_integer T) (hr.mono (by decide)) tk T.m11 T.F11.kp T.b11 .nil gvs_nil (ia_cons (ie_var 3) ia_nil)))) (iss_one (is_raise rfl tk (ix_mk T.oex1 T.xi1 T.xt1 (ok_InvalidPart__init_InvalidPart T) (hr.mono (by decide)) T.b10 T.mc1 (ia_cons ie_str (ia_cons (ie_var 3) ia_nil))))) iss_nil)
 (iss_one (is_dput (hu_of hr) (ie_var 3) (ie_var 1) (ie_var 2))))))
 (iss_one (is_ret (ie_var 1)))))
theorem sc_owner_of : FnScope ["key"] ["key"] (defScope st_owner_of) := ⟨rfl, rfl, rfl, by decide +kernel, rfl, by decide +kernel, by decide +kernel⟩
theorem ok_owner_of (T : Txt K w mg G fd base cs) : FnOk P w K mg base (L2.CX P w) 3 (G.fa 13) (fd 13) ["key"] (spF G 1 m_owner_of) :=
 ok_fn (B := ⟨0, .none, none, 0⟩) T.F13 sc_owner_of fun cdv A outer s H E zs hr tk =>
 (iss_cons (is_if (it_not (it_of (ie_call (ok_is_key T) (hr.mono (by decide)) tk T.m9 T.F9.kp T.b9 .nil gvs_nil (ia_cons (ie_var 0) ia_nil)))) (iss_one (is_raise rfl tk (ix_mk T.oex1 T.xi1 T.xt1 (ok_InvalidPart__init_InvalidPart T) (hr.mono (by decide)) T.b10 T.mc1 (ia_cons ie_str (ia_cons (ie_var 0) ia_nil))))) iss_nil)
 (iss_one (is_ret (ie_ix ix_seq (ao_ix T.hK) (ie_partition (ie_var 0) ie_str) ie_int))))
theorem sc_checked_owners : FnScope ["kept", "owners", "born", "name", "key"] ["kept", "owners"] (defScope st_checked_owners) := ⟨rfl, rfl, rfl, by decide +kernel, rfl, by decide +kernel, by decide +kernel⟩
theorem ok_checked_owners (T : Txt K w mg G fd base cs) : FnOk P w K mg base (L2.CX P w) 4 (G.fa 14) (fd 14) ["kept", "owners"] (spF G 2 m_checked_owners) :=
 ok_fn (B := ⟨0, .none, none, 0⟩) T.F14 sc_checked_owners fun cdv A outer s H E zs hr tk =>
 (iss_cons (is_set 2 sc_checked_owners.nd (ie_callTy (call_dictA rfl) (ao_dictR T.hK) rfl T.z_dict (by rfl) (ia_cons (ie_lcK 0 [(("key" : Str), 4)] sc_checked_owners.nd (by show BlkOk ["kept", "owners", "born", "name", "key"] (defScope st_checked_owners) _ _; exact ⟨rfl, by decide +kernel, by decide +kernel, by decide +kernel, by decide +kernel⟩) (fun s H C cl fp => (ige_name 4 sc_checked_owners.nd)) (fun s H C cl fp => its_nil) (fun s H C cl fp => (ie_tup (ia_cons (ie_call (ok_owner_of T) (hr.mono (by decide)) take0 T.m13 T.F13.kp T.b13 .nil gvs_nil (ia_cons (ie_var 4) ia_nil)) (ia_cons ie_bl ia_nil))))) ia_nil)))
 (iss_cons (is_forD (ms := l0_checked_owners) 100 (passes_of rfl) rfl (iiD_seq T.hK (ie_var 1)) (ig_name 3 sc_checked_owners.nd) (iss_cons (is_if (it_not (it_of (ie_call (ok_is_name T) (hr.mono (by decide)) tk T.m8 T.F8.kp T.b8 .nil gvs_nil (ia_cons (ie_var 3) ia_nil)))) (iss_one (is_raise rfl tk (ix_mk T.oex1 T.xi1 T.xt1 (ok_InvalidPart__init_InvalidPart T) (hr.mono (by decide)) T.b10 T.mc1 (ia_cons ie_str (ia_cons (ie_var 3) ia_nil))))) iss_nil)
 (iss_one (is_dput (hu_of hr) ie_bl (ie_var 2) (ie_var 3)))))
 (iss_one (is_ret (ie_var 2)))))
theorem sc_Store__init : FnScope ["self", "rows", "owners", "kept", "born"] ["self", "rows", "owners"] (defScope st_Store__init) := ⟨rfl, rfl, rfl, by decide +kernel, rfl, by decide +kernel, by decide +kernel⟩
theorem ok_Store__init (T : Txt K w mg G fd base cs) : FnOk P w K mg base (L2.CX P w) 5 (G.fa 15) (fd 15) ["self", "rows", "owners"] (spI G 13 3 m_Store__init) :=
 ok_initD (Classical.choose_spec (Classical.choose_spec T.F15)) sc_Store__init fun B cdv A outer s H E zs hr tk =>
 (iss_cons (is_if (it_of (ie_callB call_isi (ao_isi T.hK T.kit) rfl T.z_isinstance (by rfl) (ia_cons (ie_var 1) (ia_cons (ie_cls 12 rfl T.mc12) ia_nil)))) (iss_one (is_par 3 4 sc_Store__init.nd (ia_cons (ie_callTy (call_dictA rfl) (ao_dictR T.hK) rfl T.z_dict (by rfl) (ia_cons (ie_fld (ie_var 1) T.n42 (fa1 T.fo12_42 (fa1 T.fo13_42 fa0))) ia_nil)) (ia_cons (ie_callTy (call_dictA rfl) (ao_dictR T.hK) rfl T.z_dict (by rfl) (ia_cons (ie_fld (ie_var 1) T.n43 (fa1 T.fo12_43 (fa1 T.fo13_43 fa0))) ia_nil)) ia_nil)))) (iss_cons (is_set 3 sc_Store__init.nd (ie_call (ok_checked_rows T) (hr.mono (by decide)) tk T.m12 T.F12.kp T.b12 .nil gvs_nil (ia_cons (ie_var 1) ia_nil)))
 (iss_one (is_set 4 sc_Store__init.nd (ie_call (ok_checked_owners T) (hr.mono (by decide)) tk T.m14 T.F14.kp T.b14 .nil gvs_nil (ia_cons (ie_var 3) (ia_cons (ie_var 2) ia_nil)))))))
 (iss_cons (is_ownf (ie_var 3) T.n42 (fa1 T.fo13_42 fa0))
 (iss_one (is_ownf (ie_var 4) T.n43 (fa1 T.fo13_43 fa0)))))
theorem sc_Store_all_owners : FnScope ["self"] ["self"] (defScope st_Store_all_owners) := ⟨rfl, rfl, rfl, by decide +kernel, rfl, by decide +kernel, by decide +kernel⟩
theorem ok_Store_all_owners (T : Txt K w mg G fd base cs) : FnOk P w K mg base (L2.CX P w) 1 (G.fa 16) (fd 16) ["self"] (spF G 1 m_Store_all_owners) :=
 ok_fn (B := ⟨0, .none, none, 0⟩) T.F16 sc_Store_all_owners fun cdv A outer s H E zs hr tk =>
 (iss_one (is_ret (ie_callB (call_sortA rfl) (ao_sortR T.hK) rfl T.z_sorted (by rfl) (ia_cons (ie_callTy (call_listD rfl) ao_listDF rfl T.z_list (by rfl) (ia_cons (ie_fld (ie_var 0) T.n43 (fa1 T.fo12_43 (fa1 T.fo13_43 fa0))) ia_nil)) ia_nil))))
theorem sc_value : FnScope ["_law_bag_here"] ["_law_bag_here"] (defScope st_value) := ⟨rfl, rfl, rfl, by decide +kernel, rfl, by decide +kernel, by decide +kernel⟩
theorem ok_value (T : Txt K w mg G fd base cs) : FnOk P w K mg base (L2.CX P w) 3 (G.fa 17) (fd 17) ["_law_bag_here"] (spF G 1 m_value) :=
 ok_fn (B := ⟨0, .none, none, 0⟩) T.F17 sc_value fun cdv A outer s H E zs hr tk =>
 (iss_one (is_ret (ie_if (it_cmp (op_eqD hr.units) (ao_eq T.hK) (ie_call (ok_take T) (hr.mono (by decide)) tk T.m1 T.F1.kp T.b1 .nil gvs_nil (ia_cons (ie_var 0) (ia_cons ie_int ia_nil))) ie_int) ie_non (ie_call (ok_integer T) (hr.mono (by decide)) tk T.m6 T.F6.kp T.b6 .nil gvs_nil (ia_cons (ie_var 0) ia_nil)))))
theorem sc_writes : FnScope ["_law_bag_here", "_law_keys_here", "_law_many", "_law_found", "_law_turn", "_law_name", "_law_deed", "_law_key"] ["_law_bag_here", "_law_keys_here", "_law_many"] (defScope st_writes) := ⟨rfl, rfl, rfl, by decide +kernel, rfl, by decide +kernel, by decide +kernel⟩
theorem ok_writes (T : Txt K w mg G fd base cs) : FnOk P w K mg base (L2.CX P w) 4 (G.fa 18) (fd 18) ["_law_bag_here", "_law_keys_here", "_law_many"] (spF G 3 m_writes) :=
 ok_fn (B := ⟨0, .none, none, 0⟩) T.F18 sc_writes fun cdv A outer s H E zs hr tk =>
 (iss_cons (is_set 3 sc_writes.nd (ie_lst ia_nil))
 (iss_cons (is_for (ms := l0_writes) (passes_of rfl) rfl (ii_range1 T.z_range (ia_cons (ie_var 2) ia_nil)) (ig_name 4 sc_writes.nd) (iss_cons (is_par 6 7 sc_writes.nd (ia_cons (ie_call (ok_of T) (hr.mono (by decide)) tk T.m2 T.F2.kp T.b2 .nil gvs_nil (ia_cons (ie_var 0) (ia_cons (ie_fl (ia_cons ie_str (ia_cons ie_str (ia_cons ie_str (ia_cons ie_str (ia_cons ie_str (ia_cons ie_str ia_nil))))))) ia_nil))) (ia_cons (ie_call (ok_of T) (hr.mono (by decide)) tk T.m2 T.F2.kp T.b2 .nil gvs_nil (ia_cons (ie_var 0) (ia_cons (ie_var 1) ia_nil))) ia_nil)))
 (iss_cons (is_set 5 sc_writes.nd (ie_if (it_cmp (op_eqD hr.units) (ao_eq T.hK) (ie_var 6) ie_str) (ie_ix ix_seq (ao_ix T.hK) (ie_partition (ie_var 7) ie_str) ie_int) (ie_var 7)))
 (iss_one (is_expr (ie_appR (ie_var 3) (ia_cons (ie_tup (ia_cons (ie_var 6) (ia_cons (ie_var 5) (ia_cons (ie_if (it_cmp op_in_seq (ao_inB T.hK false) (ie_var 6) (ie_fl (ia_cons ie_str (ia_cons ie_str ia_nil)))) ie_non (ie_call (ok_value T) (hr.mono (by decide)) tk T.m17 T.F17.kp T.b17 .nil gvs_nil (ia_cons (ie_var 0) ia_nil))) ia_nil)))) ia_nil)))))))
 (iss_one (is_ret (ie_kill (ie_var 3))))))
theorem sc_reason : FnScope ["_law_rows_here", "_law_owners_here", "_law_write", "_law_choice", "_law_deed", "_law_name", "_law_value_here"] ["_law_rows_here", "_law_owners_here", "_law_write", "_law_choice"] (defScope st_reason) := ⟨rfl, rfl, rfl, by decide +kernel, rfl, by decide +kernel, by decide +kernel⟩
theorem ok_reason (T : Txt K w mg G fd base cs) : FnOk P w K mg base (L2.CX P w) 1 (G.fa 19) (fd 19) ["_law_rows_here", "_law_owners_here", "_law_write", "_law_choice"] (spF G 4 m_reason) :=
 ok_fn (B := ⟨0, .none, none, 0⟩) T.F19 sc_reason fun cdv A outer s H E zs hr tk =>
 (iss_cons (is_asg (ie_var 2) (ig_tup T.hK rfl (igs_cons (ig_name 4 sc_reason.nd) (igs_cons (ig_name 5 sc_reason.nd) (igs_cons (ig_name 6 sc_reason.nd) igs_nil)))))
 (iss_cons (is_if (it_cmp (op_eqD hr.units) (ao_eqH T.hK) (ie_var 4) ie_str) (iss_one (is_ret (ie_if (it_cmp (op_inDA hr) (ao_inH T.hK false) (ie_var 5) (ie_var 1)) ie_str ie_non))) iss_nil)
 (iss_cons (is_if (IW.it (iw_and (it_cmp (op_neD hr.units) (ao_neH T.hK) (ie_var 4) ie_str) (iw_and1 (it_cmp op_isN ao_isN (ie_var 6) ie_non)))) (iss_one (is_ret ie_str)) iss_nil)
 (iss_cons (is_if (it_cmp (op_eqD hr.units) (ao_eqH T.hK) (ie_var 4) ie_str) (iss_cons (is_if (it_cmp (op_notInDA hr) (ao_inH T.hK true) (ie_ix ix_seq (ao_ix T.hK) (ie_partition (ie_var 5) ie_str) ie_int) (ie_var 1)) (iss_one (is_ret ie_str)) iss_nil)
 (iss_one (is_ret (ie_if (IW.it (iw_and (it_cmp (op_inDict (hu_of hr)) (ao_inDict false) (ie_var 5) (ie_var 0)) (iw_and1 (it_cmp (op_eqD hr.units) (ao_eqH T.hK) (ie_ix ix_seq (ao_ix T.hK) (ie_var 3) ie_int) ie_str)))) ie_str ie_non)))) iss_nil)
 (iss_one (is_ret (ie_if (IW.it (iw_and (it_cmp (op_notInDict (hu_of hr)) (ao_inDict true) (ie_var 5) (ie_var 0)) (iw_and1 (it_cmp (op_eqD hr.units) (ao_eqH T.hK) (ie_ix ix_seq (ao_ix T.hK) (ie_var 3) ie_int) ie_str)))) ie_str ie_non)))))))
theorem sc_do : FnScope ["_law_rows_here", "_law_owners_here", "_law_write", "_law_choice", "_law_deed", "_law_name", "_law_value_here"] ["_law_rows_here", "_law_owners_here", "_law_write", "_law_choice"] (defScope st_do) := ⟨rfl, rfl, rfl, by decide +kernel, rfl, by decide +kernel, by decide +kernel⟩
theorem ok_do (T : Txt K w mg G fd base cs) : FnOk P w K mg base (L2.CX P w) 1 (G.fa 20) (fd 20) ["_law_rows_here", "_law_owners_here", "_law_write", "_law_choice"] (spF G 4 m_do) :=
 ok_fn (B := ⟨0, .none, none, 0⟩) T.F20 sc_do fun cdv A outer s H E zs hr tk =>
 (iss_cons (is_asg (ie_var 2) (ig_tup T.hK rfl (igs_cons (ig_name 4 sc_do.nd) (igs_cons (ig_name 5 sc_do.nd) (igs_cons (ig_name 6 sc_do.nd) igs_nil)))))
 (iss_one (is_if (it_cmp (op_eqD hr.units) (ao_eq T.hK) (ie_var 4) ie_str) (iss_one (is_expr (ie_appR (ie_var 1) (ia_cons (ie_var 5) ia_nil)))) (iss_one (is_if (IW.it (iw_and (it_cmp (op_eqD hr.units) (ao_eq T.hK) (ie_var 4) ie_str) (iw_and1 (IW.it (iw_or (it_cmp (op_notInDict (hu_of hr)) (ao_inDict true) (ie_var 5) (ie_var 0)) (iw_or1 (it_cmp (op_eqD hr.units) (ao_eq T.hK) (ie_ix ix_seq (ao_ix T.hK) (ie_var 3) ie_int) ie_str))))))) (iss_one (is_dput (hu_of hr) (ie_var 6) (ie_var 0) (ie_var 5))) (iss_one (is_if (IW.it (iw_and (it_cmp (op_eqD hr.units) (ao_eq T.hK) (ie_var 4) ie_str) (iw_and1 (it_cmp (op_inDict (hu_of hr)) (ao_inDict false) (ie_var 5) (ie_var 0))))) (iss_one (is_dput (hu_of hr) (ie_var 6) (ie_var 0) (ie_var 5))) (iss_one (is_if (IW.it (iw_and (it_cmp (op_eqD hr.units) (ao_eq T.hK) (ie_var 4) ie_str) (iw_and1 (it_cmp (op_inDict (hu_of hr)) (ao_inDict false) (ie_var 5) (ie_var 0))))) (iss_one (is_dput (hu_of hr) (ie_op op_addA (ao_add T.hK) (ie_dget (hu_of hr) (ie_var 0) (ie_var 5)) (ie_var 6)) (ie_var 0) (ie_var 5))) (iss_one (is_if (it_cmp (op_eqD hr.units) (ao_eq T.hK) (ie_var 4) ie_str) (iss_one (is_expr (ie_dpop (ie_var 0) (ie_var 5) ie_non))) iss_nil)))))))))))
theorem sc_Batch__init : FnScope ["self", "home", "clash", "lost"] ["self", "home", "clash", "lost"] (defScope st_Batch__init) := ⟨rfl, rfl, rfl, by decide +kernel, rfl, by decide +kernel, by decide +kernel⟩
theorem ok_Batch__init (T : Txt K w mg G fd base cs) : FnOk P w K mg base (L2.CX P w) 1 (G.fa 21) (fd 21) ["self", "home", "clash", "lost"] (spF G 4 m_Batch__init) :=
 ok_fn (B := ⟨0, .none, none, 0⟩) T.F21 sc_Batch__init fun cdv A outer s H E zs hr tk =>
 (iss_cons (is_fldset (ie_var 0) (ie_var 1) T.n54 (fa1 T.fo14_54 fa0))
 (iss_cons (is_fldset (ie_var 0) (ie_var 2) T.n35 (fa1 T.fo14_35 fa0))
 (iss_cons (is_fldset (ie_var 0) (ie_var 3) T.n36 (fa1 T.fo14_36 fa0))
 (iss_cons (is_fldset (ie_var 0) ie_int T.n55 (fa1 T.fo14_55 fa0))
 (iss_cons (is_fldset (ie_var 0) ie_dnew T.n56 (fa1 T.fo14_56 fa0))
 (iss_one (is_fldset (ie_var 0) ie_dnew T.n57 (fa1 T.fo14_57 fa0))))))))
theorem sc_Store_batch : FnScope ["self", "clash", "lost"] ["self", "clash", "lost"] (defScope st_Store_batch) := ⟨rfl, rfl, rfl, by decide +kernel, rfl, by decide +kernel, by decide +kernel⟩
theorem ok_Store_batch (T : Txt K w mg G fd base cs) : FnOk P w K mg base (L2.CX P w) 3 (G.fa 22) (fd 22) ["self", "clash", "lost"] (spF G 3 m_Store_batch) :=
 ok_fnD (B := ⟨0, .none, none, 0⟩) T.F22 sc_Store_batch fun cdv A outer s H E zs hr tk =>
 (iss_one (is_ret (ie_mkR T.mk14 (ok_Batch__init T) (hr.mono (by decide)) tk T.mc14 T.b21 .nil gvs_nil (ia_cons (ie_var 0) (ia_cons (ie_var 1) (ia_cons (ie_var 2) ia_nil))))))
theorem sc_Batch__enter : FnScope ["self"] ["self"] (defScope st_Batch__enter) := ⟨rfl, rfl, rfl, by decide +kernel, rfl, by decide +kernel, by decide +kernel⟩
theorem ok_Batch__enter (T : Txt K w mg G fd base cs) : FnOk P w K mg base (L2.CX P w) 1 (G.fa 23) (fd 23) ["self"] (spF G 1 m_Batch__enter) :=
 ok_fn (B := ⟨0, .none, none, 0⟩) T.F23 sc_Batch__enter fun cdv A outer s H E zs hr tk =>
 (iss_cons (is_fldset (ie_var 0) (ie_callTy (call_dictA rfl) (ao_dictR T.hK) rfl T.z_dict (by rfl) (ia_cons (ie_fld (ie_fld (ie_var 0) T.n54 (fa1 T.fo14_54 fa0)) T.n42 (fa1 T.fo12_42 (fa1 T.fo13_42 fa0))) ia_nil)) T.n56 (fa1 T.fo14_56 fa0))
 (iss_cons (is_fldset (ie_var 0) (ie_callTy (call_dictA rfl) (ao_dictR T.hK) rfl T.z_dict (by rfl) (ia_cons (ie_fld (ie_fld (ie_var 0) T.n54 (fa1 T.fo14_54 fa0)) T.n43 (fa1 T.fo12_43 (fa1 T.fo13_43 fa0))) ia_nil)) T.n57 (fa1 T.fo14_57 fa0))
 (iss_cons (is_fldset (ie_var 0) ie_int T.n55 (fa1 T.fo14_55 fa0))
 (iss_one (is_ret (ie_var 0))))))
theorem sc_Batch__exit : FnScope ["self", "kind", "value", "trace"] ["self", "kind", "value", "trace"] (defScope st_Batch__exit) := ⟨rfl, rfl, rfl, by decide +kernel, rfl, by decide +kernel, by decide +kernel⟩
theorem ok_Batch__exit (T : Txt K w mg G fd base cs) : FnOk P w K mg base (L2.CX P w) 1 (G.fa 24) (fd 24) ["self", "kind", "value", "trace"] (spF G 4 m_Batch__exit) :=
 ok_fn (B := ⟨0, .none, none, 0⟩) T.F24 sc_Batch__exit fun cdv A outer s H E zs hr tk =>
 (iss_one (is_if (it_cmp op_notN ao_notN (ie_var 1) ie_non) (iss_cons (is_fldset (ie_fld (ie_var 0) T.n54 (fa1 T.fo14_54 fa0)) (ie_fld (ie_var 0) T.n56 (fa1 T.fo14_56 fa0)) T.n42 (fa1 T.fo12_42 (fa1 T.fo13_42 fa0)))
 (iss_one (is_fldset (ie_fld (ie_var 0) T.n54 (fa1 T.fo14_54 fa0)) (ie_fld (ie_var 0) T.n57 (fa1 T.fo14_57 fa0)) T.n43 (fa1 T.fo12_43 (fa1 T.fo13_43 fa0))))) iss_nil))
theorem sc_in_batch : FnScope ["store", "steps", "clash", "lost", "batch"] ["store", "steps", "clash", "lost"] (defScope st_in_batch) := ⟨rfl, rfl, rfl, by decide +kernel, rfl, by decide +kernel, by decide +kernel⟩
theorem ok_in_batch (T : Txt K w mg G fd base cs) {k : Nat} (hk : 3 ≤ k) : InbOk P w K G mg base k 14 (G.fa 25) (fd 25) ["store", "steps", "clash", "lost", "batch"] ["store", "steps", "clash", "lost"] "steps" "batch" 4 x_in_batch (chk 1 m_Batch__enter) (chk 4 m_Batch__exit) :=
 ok_inb T.F25 sc_in_batch rfl T.cl14 T.oc14_enter T.oc14_exit (ok_Batch__enter T) (ok_Batch__exit T) (Nat.le_trans (by decide) hk) (Nat.le_trans (by decide) hk) T.b23 T.b24 rfl (.inl rfl) rfl (.inl rfl) (by decide) (by decide) (by decide) (by decide) rfl rfl (by decide +kernel) (fun cdv B No A outer s H E hr => (ie_metN0 (ks := ["clash", "lost"]) (ie_var 0) T.n53 T.cl13 T.me13_53 (ok_Store_batch T) (hr.mono (Nat.le_trans (by decide) hk)) take0 T.kb22_0 (ik_cons (ie_var 2) (ik_cons (ie_var 3) ik_nil))))
theorem sc_Store_has_owner : FnScope ["self", "name"] ["self", "name"] (defScope st_Store_has_owner) := ⟨rfl, rfl, rfl, by decide +kernel, rfl, by decide +kernel, by decide +kernel⟩
theorem ok_Store_has_owner (T : Txt K w mg G fd base cs) : FnOk P w K mg base (L2.CX P w) 2 (G.fa 26) (fd 26) ["self", "name"] (spF G 2 m_Store_has_owner) :=
 ok_fn (B := ⟨0, .none, none, 0⟩) T.F26 sc_Store_has_owner fun cdv A outer s H E zs hr tk =>
 (iss_one (is_ret (ie_and (ie_call (ok_is_name T) (hr.mono (by decide)) tk T.m8 T.F8.kp T.b8 .nil gvs_nil (ia_cons (ie_var 1) ia_nil)) (ie_one (ie_cmp (op_inDict (hu_of hr)) (ao_inDict false) (ie_var 1) (ie_fld (ie_var 0) T.n43 (fa1 T.fo12_43 (fa1 T.fo13_43 fa0))))))))
theorem sc_Store_row : FnScope ["self", "key"] ["self", "key"] (defScope st_Store_row) := ⟨rfl, rfl, rfl, by decide +kernel, rfl, by decide +kernel, by decide +kernel⟩
theorem ok_Store_row (T : Txt K w mg G fd base cs) : FnOk P w K mg base (L2.CX P w) 3 (G.fa 27) (fd 27) ["self", "key"] (spF G 2 m_Store_row) :=
 ok_fn (B := ⟨0, .none, none, 0⟩) T.F27 sc_Store_row fun cdv A outer s H E zs hr tk =>
 (iss_one (is_ret (ie_if (IW.it (iw_and (it_of (ie_call (ok_is_key T) (hr.mono (by decide)) tk T.m9 T.F9.kp T.b9 .nil gvs_nil (ia_cons (ie_var 1) ia_nil))) (iw_and1 (it_cmp (op_inDict (hu_of hr)) (ao_inDict false) (ie_var 1) (ie_fld (ie_var 0) T.n42 (fa1 T.fo12_42 (fa1 T.fo13_42 fa0))))))) (ie_tup (ia_cons (ie_dget (hu_of hr) (ie_fld (ie_var 0) T.n42 (fa1 T.fo12_42 (fa1 T.fo13_42 fa0))) (ie_var 1)) ia_nil)) (ie_tup ia_nil))))
theorem sc_reason_of : FnScope ["store", "write", "clash", "lost", "is_there", "deed", "name", "value"] ["store", "write", "clash", "lost"] (defScope st_reason_of) := ⟨rfl, rfl, rfl, by decide +kernel, rfl, by decide +kernel, by decide +kernel⟩
theorem ok_reason_of (T : Txt K w mg G fd base cs) : FnOk P w K mg base (L2.CX P w) 4 (G.fa 28) (fd 28) ["store", "write", "clash", "lost"] (spF G 4 m_reason_of) :=
 ok_fn (B := ⟨0, .none, none, 0⟩) T.F28 sc_reason_of fun cdv A outer s H E zs hr tk =>
 (iss_cons (is_asg (ie_var 1) (ig_tup T.hK rfl (igs_cons (ig_name 5 sc_reason_of.nd) (igs_cons (ig_name 6 sc_reason_of.nd) (igs_cons (ig_name 7 sc_reason_of.nd) igs_nil)))))
 (iss_cons (is_if (it_cmp (op_eqD hr.units) (ao_eq T.hK) (ie_var 5) ie_str) (iss_one (is_ret (ie_if (it_of (ie_meth (ie_var 0) T.n46 T.cl13 T.me13_46 (ok_Store_has_owner T) (hr.mono (by decide)) tk T.b26 .nil gvs_nil (ia_cons (ie_var 6) ia_nil))) ie_str ie_non))) iss_nil)
 (iss_cons (is_if (IW.it (iw_and (it_cmp (op_neD hr.units) (ao_ne T.hK) (ie_var 5) ie_str) (iw_and1 (it_cmp op_isN ao_isN (ie_var 7) ie_non)))) (iss_one (is_ret ie_str)) iss_nil)
 (iss_cons (is_set 4 sc_reason_of.nd (ie_cmp (op_eqD hr.units) (ao_eq T.hK) (ie_callB call_len (ao_len T.hK) rfl T.z_len (by rfl) (ia_cons (ie_meth (ie_var 0) T.n45 T.cl13 T.me13_45 (ok_Store_row T) (hr.mono (by decide)) tk T.b27 .nil gvs_nil (ia_cons (ie_var 6) ia_nil)) ia_nil)) ie_int))
 (iss_cons (is_if (it_cmp (op_eqD hr.units) (ao_eq T.hK) (ie_var 5) ie_str) (iss_cons (is_if (it_not (it_of (ie_meth (ie_var 0) T.n46 T.cl13 T.me13_46 (ok_Store_has_owner T) (hr.mono (by decide)) tk T.b26 .nil gvs_nil (ia_cons (ie_call (ok_owner_of T) (hr.mono (by decide)) tk T.m13 T.F13.kp T.b13 .nil gvs_nil (ia_cons (ie_var 6) ia_nil)) ia_nil)))) (iss_one (is_ret ie_str)) iss_nil)
 (iss_one (is_ret (ie_if (IW.it (iw_and (it_of (ie_var 4)) (iw_and1 (it_cmp (op_eqD hr.units) (ao_eq T.hK) (ie_var 2) ie_str)))) ie_str ie_non)))) iss_nil)
 (iss_one (is_ret (ie_if (IW.it (iw_and (it_not (it_of (ie_var 4))) (iw_and1 (it_cmp (op_eqD hr.units) (ao_eq T.hK) (ie_var 3) ie_str)))) ie_str ie_non))))))))
theorem sc_Batch_refusal : FnScope ["self", "deed", "name", "value"] ["self", "deed", "name", "value"] (defScope st_Batch_refusal) := ⟨rfl, rfl, rfl, by decide +kernel, rfl, by decide +kernel, by decide +kernel⟩
theorem ok_Batch_refusal (T : Txt K w mg G fd base cs) : FnOk P w K mg base (L2.CX P w) 5 (G.fa 29) (fd 29) ["self", "deed", "name", "value"] (spF G 4 m_Batch_refusal) :=
 ok_fn (B := ⟨0, .none, none, 0⟩) T.F29 sc_Batch_refusal fun cdv A outer s H E zs hr tk =>
 (iss_one (is_ret (ie_call (ok_reason_of T) (hr.mono (by decide)) tk T.m28 T.F28.kp T.b28 .nil gvs_nil (ia_cons (ie_fld (ie_var 0) T.n54 (fa1 T.fo14_54 fa0)) (ia_cons (ie_tup (ia_cons (ie_var 1) (ia_cons (ie_var 2) (ia_cons (ie_var 3) ia_nil)))) (ia_cons (ie_fld (ie_var 0) T.n35 (fa1 T.fo14_35 fa0)) (ia_cons (ie_fld (ie_var 0) T.n36 (fa1 T.fo14_36 fa0)) ia_nil)))))))
theorem sc_WriteRefused__init : FnScope ["self", "place", "reason"] ["self", "place", "reason"] (defScope st_WriteRefused__init) := ⟨rfl, rfl, rfl, by decide +kernel, rfl, by decide +kernel, by decide +kernel⟩
theorem ok_WriteRefused__init_WriteRefused (T : Txt K w mg G fd base cs) : FnOk P w K mg base (L2.CX P w) 1 (G.fa 30) (fd 30) ["self", "place", "reason"] (spE (G.ca 5) ([6, 7].map G.nm)) := by
 rw [show (([6, 7] : List Nat).map G.nm) = (["place", "reason"] : List Str) from by simp only [List.map, T.n6, T.n7]]
 exact ok_einit2 (P := P) (w := w) (mg := mg) (base := base) T.F30 sc_WriteRefused__init T.oex5 T.xn5_6 T.xn5_7 rfl (.inl rfl) (.inl rfl) (.inl rfl) (by decide) (by decide) (by decide) (by decide) (by decide) (by decide)
theorem sc_Store_bear : FnScope ["self", "name", "was_lacking"] ["self", "name"] (defScope st_Store_bear) := ⟨rfl, rfl, rfl, by decide +kernel, rfl, by decide +kernel, by decide +kernel⟩
theorem ok_Store_bear (T : Txt K w mg G fd base cs) : FnOk P w K mg base (L2.CX P w) 3 (G.fa 31) (fd 31) ["self", "name"] (spF G 2 m_Store_bear) :=
 ok_fn (B := ⟨0, .none, none, 0⟩) T.F31 sc_Store_bear fun cdv A outer s H E zs hr tk =>
 (iss_cons (is_if (it_not (it_of (ie_call (ok_is_name T) (hr.mono (by decide)) tk T.m8 T.F8.kp T.b8 .nil gvs_nil (ia_cons (ie_var 1) ia_nil)))) (iss_one (is_raise rfl tk (ix_mk T.oex1 T.xi1 T.xt1 (ok_InvalidPart__init_InvalidPart T) (hr.mono (by decide)) T.b10 T.mc1 (ia_cons ie_str (ia_cons (ie_var 1) ia_nil))))) iss_nil)
 (iss_cons (is_set 2 sc_Store_bear.nd (ie_cmp (op_notInDict (hu_of hr)) (ao_inDict true) (ie_var 1) (ie_fld (ie_var 0) T.n43 (fa1 T.fo12_43 (fa1 T.fo13_43 fa0)))))
 (iss_cons (is_dput (hu_of hr) ie_bl (ie_fld (ie_var 0) T.n43 (fa1 T.fo12_43 (fa1 T.fo13_43 fa0))) (ie_var 1))
 (iss_one (is_ret (ie_var 2))))))
theorem sc_Store_put : FnScope ["self", "key", "value"] ["self", "key", "value"] (defScope st_Store_put) := ⟨rfl, rfl, rfl, by decide +kernel, rfl, by decide +kernel, by decide +kernel⟩
theorem ok_Store_put (T : Txt K w mg G fd base cs) : FnOk P w K mg base (L2.CX P w) 4 (G.fa 32) (fd 32) ["self", "key", "value"] (spF G 3 m_Store_put) :=
 ok_fn (B := ⟨0, .none, none, 0⟩) T.F32 sc_Store_put fun cdv A outer s H E zs hr tk =>
 (iss_cons (is_dput (hu_of hr) (ie_var 2) (ie_fld (ie_var 0) T.n42 (fa1 T.fo12_42 (fa1 T.fo13_42 fa0))) (ie_var 1))
 (iss_one (is_dput (hu_of hr) ie_bl (ie_fld (ie_var 0) T.n43 (fa1 T.fo12_43 (fa1 T.fo13_43 fa0))) (ie_call (ok_owner_of T) (hr.mono (by decide)) tk T.m13 T.F13.kp T.b13 .nil gvs_nil (ia_cons (ie_var 1) ia_nil)))))
theorem sc_Missing__init : FnScope ["self", "key"] ["self", "key"] (defScope st_Missing__init) := ⟨rfl, rfl, rfl, by decide +kernel, rfl, by decide +kernel, by decide +kernel⟩
theorem ok_Missing__init_Missing (T : Txt K w mg G fd base cs) : FnOk P w K mg base (L2.CX P w) 1 (G.fa 33) (fd 33) ["self", "key"] (spE (G.ca 3) ([4].map G.nm)) := by
 rw [show (([4] : List Nat).map G.nm) = (["key"] : List Str) from by simp only [List.map, T.n4]]
 exact ok_einit1 (P := P) (w := w) (mg := mg) (base := base) T.F33 sc_Missing__init T.oex3 T.xn3_4 rfl (.inl rfl) (.inl rfl) (by decide) (by decide) (by decide) (by decide)
theorem sc_Store_drop : FnScope ["self", "key"] ["self", "key"] (defScope st_Store_drop) := ⟨rfl, rfl, rfl, by decide +kernel, rfl, by decide +kernel, by decide +kernel⟩
theorem ok_Store_drop (T : Txt K w mg G fd base cs) : FnOk P w K mg base (L2.CX P w) 3 (G.fa 34) (fd 34) ["self", "key"] (spF G 2 m_Store_drop) :=
 ok_fn (B := ⟨0, .none, none, 0⟩) T.F34 sc_Store_drop fun cdv A outer s H E zs hr tk =>
 (iss_cons (is_if (IW.it (iw_or (it_not (it_of (ie_call (ok_is_key T) (hr.mono (by decide)) tk T.m9 T.F9.kp T.b9 .nil gvs_nil (ia_cons (ie_var 1) ia_nil)))) (iw_or1 (it_cmp (op_notInDict (hu_of hr)) (ao_inDict true) (ie_var 1) (ie_fld (ie_var 0) T.n42 (fa1 T.fo12_42 (fa1 T.fo13_42 fa0))))))) (iss_one (is_raise rfl tk (ix_mk T.oex3 T.xi3 T.xt3 (ok_Missing__init_Missing T) (hr.mono (by decide)) T.b33 T.mc3 (ia_cons (ie_var 1) ia_nil)))) iss_nil)
 (iss_one (is_ddel (ie_fld (ie_var 0) T.n42 (fa1 T.fo12_42 (fa1 T.fo13_42 fa0))) (ie_var 1))))
theorem sc_do_write : FnScope ["store", "write", "clash", "row", "deed", "name", "value"] ["store", "write", "clash"] (defScope st_do_write) := ⟨rfl, rfl, rfl, by decide +kernel, rfl, by decide +kernel, by decide +kernel⟩
theorem ok_do_write (T : Txt K w mg G fd base cs) : FnOk P w K mg base (L2.CX P w) 5 (G.fa 35) (fd 35) ["store", "write", "clash"] (spF G 3 m_do_write) :=
 ok_fn (B := ⟨0, .none, none, 0⟩) T.F35 sc_do_write fun cdv A outer s H E zs hr tk =>
 (iss_cons (is_asg (ie_var 1) (ig_tup T.hK rfl (igs_cons (ig_name 4 sc_do_write.nd) (igs_cons (ig_name 5 sc_do_write.nd) (igs_cons (ig_name 6 sc_do_write.nd) igs_nil)))))
 (iss_cons (is_set 3 sc_do_write.nd (ie_meth (ie_var 0) T.n45 T.cl13 T.me13_45 (ok_Store_row T) (hr.mono (by decide)) tk T.b27 .nil gvs_nil (ia_cons (ie_var 5) ia_nil)))
 (iss_one (is_if (it_cmp (op_eqD hr.units) (ao_eq T.hK) (ie_var 4) ie_str) (iss_one (is_expr (ie_meth (ie_var 0) T.n51 T.cl13 T.me13_51 (ok_Store_bear T) (hr.mono (by decide)) tk T.b31 .nil gvs_nil (ia_cons (ie_var 5) ia_nil)))) (iss_one (is_if (it_cmp (op_eqD hr.units) (ao_eq T.hK) (ie_var 4) ie_str) (iss_one (is_if (IW.it (iw_or (it_cmp (op_eqD hr.units) (ao_eq T.hK) (ie_callB call_len (ao_len T.hK) rfl T.z_len (by rfl) (ia_cons (ie_var 3) ia_nil)) ie_int) (iw_or1 (it_cmp (op_eqD hr.units) (ao_eq T.hK) (ie_var 2) ie_str)))) (iss_one (is_expr (ie_meth (ie_var 0) T.n50 T.cl13 T.me13_50 (ok_Store_put T) (hr.mono (by decide)) tk T.b32 .nil gvs_nil (ia_cons (ie_var 5) (ia_cons (ie_var 6) ia_nil))))) iss_nil)) (iss_one (is_if (it_cmp (op_eqD hr.units) (ao_eq T.hK) (ie_callB call_len (ao_len T.hK) rfl T.z_len (by rfl) (ia_cons (ie_var 3) ia_nil)) ie_int) (iss_one (is_if (it_cmp (op_eqD hr.units) (ao_eq T.hK) (ie_var 4) ie_str) (iss_one (is_expr (ie_meth (ie_var 0) T.n52 T.cl13 T.me13_52 (ok_Store_drop T) (hr.mono (by decide)) tk T.b34 .nil gvs_nil (ia_cons (ie_var 5) ia_nil)))) (iss_one (is_expr (ie_meth (ie_var 0) T.n50 T.cl13 T.me13_50 (ok_Store_put T) (hr.mono (by decide)) tk T.b32 .nil gvs_nil (ia_cons (ie_var 5) (ia_cons (ie_if (it_cmp (op_eqD hr.units) (ao_eq T.hK) (ie_var 4) ie_str) (ie_var 6) (ie_op op_addA (ao_add T.hK) (ie_ix ix_seq (ao_ix T.hK) (ie_var 3) ie_int) (ie_var 6))) ia_nil))))))) iss_nil))))))))
theorem sc_Batch_write : FnScope ["self", "deed", "name", "value", "place", "reason"] ["self", "deed", "name", "value"] (defScope st_Batch_write) := ⟨rfl, rfl, rfl, by decide +kernel, rfl, by decide +kernel, by decide +kernel⟩
theorem ok_Batch_write (T : Txt K w mg G fd base cs) : FnOk P w K mg base (L2.CX P w) 6 (G.fa 36) (fd 36) ["self", "deed", "name", "value"] (spF G 4 m_Batch_write) :=
 ok_fnD (B := ⟨0, .none, none, 0⟩) T.F36 sc_Batch_write fun cdv A outer s H E zs hr tk =>
 (iss_cons (is_set 4 sc_Batch_write.nd (ie_fld (ie_var 0) T.n55 (fa1 T.fo14_55 fa0)))
 (iss_cons (is_fldadd (ie_var 0) ie_int T.n55 (fa1 T.fo14_55 fa0))
 (iss_cons (is_set 5 sc_Batch_write.nd (ie_meth (ie_var 0) T.n58 T.cl14 T.me14_58 (ok_Batch_refusal T) (hr.mono (by decide)) tk T.b29 .nil gvs_nil (ia_cons (ie_var 1) (ia_cons (ie_var 2) (ia_cons (ie_var 3) ia_nil)))))
 (iss_cons (is_if (it_cmp op_notN ao_notN (ie_var 5) ie_non) (iss_one (is_raise rfl tk (ix_mk T.oex5 T.xi5 T.xt5 (ok_WriteRefused__init_WriteRefused T) (hr.mono (by decide)) T.b30 T.mc5 (ia_cons (ie_var 4) (ia_cons (ie_var 5) ia_nil))))) iss_nil)
 (iss_one (is_expr (ie_call (ok_do_write T) (hr.mono (by decide)) tk T.m35 T.F35.kp T.b35 .nil gvs_nil (ia_cons (ie_fld (ie_var 0) T.n54 (fa1 T.fo14_54 fa0)) (ia_cons (ie_tup (ia_cons (ie_var 1) (ia_cons (ie_var 2) (ia_cons (ie_var 3) ia_nil)))) (ia_cons (ie_fld (ie_var 0) T.n35 (fa1 T.fo14_35 fa0)) ia_nil))))))))))
theorem sc_tried : FnScope ["_law_batch", "_law_write", "_law_plainly", "_law_told", "e"] ["_law_batch", "_law_write", "_law_plainly"] (defScope st_tried) := ⟨rfl, rfl, rfl, by decide +kernel, rfl, by decide +kernel, by decide +kernel⟩
theorem ok_tried (T : Txt K w mg G fd base cs) : FnOk P w K mg base (L2.CX P w) 7 (G.fa 37) (fd 37) ["_law_batch", "_law_write", "_law_plainly"] (spF G 3 m_tried) :=
 ok_fn (B := ⟨0, .none, none, 0⟩) T.F37 sc_tried fun cdv A outer s H E zs hr tk =>
 (iss_cons (is_set 3 sc_tried.nd ie_non)
 (iss_cons (is_try_as 4 sc_tried.nd tk ⟨rfl, by decide, .inl T.mc5⟩ T.mt5 (fun W pn xe tk hp => (iss_one (is_if (it_of (ie_var 2)) (iss_one (is_expr (ie_metN (ks := []) (ie_var 0) T.n61 T.cl14 T.me14_61 (ok_Batch_write T) (hr.mono (by decide)) tk T.kb36_0 (ia_cons (ie_ix ix_seq (ao_ix T.hK) (ie_var 1) ie_int) (ia_cons (ie_ix ix_seq (ao_ix T.hK) (ie_var 1) ie_int) ia_nil)) ik_nil))) (iss_one (is_expr (ie_metN (ks := []) (ie_var 0) T.n61 T.cl14 T.me14_61 (ok_Batch_write T) (hr.mono (by decide)) tk T.kb36_1 (ia_cons (ie_ix ix_seq (ao_ix T.hK) (ie_var 1) ie_int) (ia_cons (ie_ix ix_seq (ao_ix T.hK) (ie_var 1) ie_int) (ia_cons (ie_ix ix_seq (ao_ix T.hK) (ie_var 1) ie_int) ia_nil))) ik_nil)))))) (fun a oe cls dd pn hz hf => (iss_one (is_set 3 sc_tried.nd (ie_tup (ia_cons (ie_exf 4 hz hf T.n6 (fa1 T.xf5_6 fa0)) (ia_cons (ie_exf 4 hz hf T.n7 (fa1 T.xf5_7 fa0)) ia_nil)))))))
 (iss_one (is_ret (ie_var 3)))))
theorem sc_Store_all_rows : FnScope ["self", "key"] ["self"] (defScope st_Store_all_rows) := ⟨rfl, rfl, rfl, by decide +kernel, rfl, by decide +kernel, by decide +kernel⟩
theorem ok_Store_all_rows (T : Txt K w mg G fd base cs) : FnOk P w K mg base (L2.CX P w) 1 (G.fa 38) (fd 38) ["self"] (spF G 1 m_Store_all_rows) :=
 ok_fn (B := ⟨0, .none, none, 0⟩) T.F38 sc_Store_all_rows fun cdv A outer s H E zs hr tk =>
 (iss_one (is_ret (ie_lc [(("key" : Str), 1)] sc_Store_all_rows.nd (by show BlkOk ["self", "key"] (defScope st_Store_all_rows) _ _; exact ⟨rfl, by decide +kernel, by decide +kernel, by decide +kernel, by decide +kernel⟩) (ii_list T.hK (ie_callB (call_sortA rfl) (ao_sortF T.hK) rfl T.z_sorted (by rfl) (ia_cons (ie_callTy (call_listD rfl) ao_listDF rfl T.z_list (by rfl) (ia_cons (ie_fld (ie_var 0) T.n42 (fa1 T.fo12_42 (fa1 T.fo13_42 fa0))) ia_nil)) ia_nil))) (fun s H C cl fp => (ige_name 1 sc_Store_all_rows.nd)) (fun s H C cl fp => its_nil) (fun s H C cl fp => (ie_tup (ia_cons (ie_var 1) (ia_cons (ie_dget (hu_of hr) (ie_fld (ie_var 0) T.n42 (fa1 T.fo12_42 (fa1 T.fo13_42 fa0))) (ie_var 1)) ia_nil)))))))
theorem sc_seen : FnScope ["_law_store", "_law_batch", "_law_writes_here", "_law_found", "_law_write", "_law_told"] ["_law_store", "_law_batch", "_law_writes_here"] (defScope st_seen) := ⟨rfl, rfl, rfl, by decide +kernel, rfl, by decide +kernel, by decide +kernel⟩
theorem ok_seen (T : Txt K w mg G fd base cs) : FnOk P w K mg base (L2.CX P w) 8 (G.fa 39) (fd 39) ["_law_store", "_law_batch", "_law_writes_here"] (spF G 3 m_seen) :=
 ok_fn (B := ⟨0, .none, none, 0⟩) T.F39 sc_seen fun cdv A outer s H E zs hr tk =>
 (iss_cons (is_set 3 sc_seen.nd (ie_lst ia_nil))
 (iss_cons (is_for (ms := l0_seen) (passes_of rfl) rfl (ii_list T.hK (ie_var 2)) (ig_name 4 sc_seen.nd) (iss_cons (is_set 5 sc_seen.nd (ie_call (ok_tried T) (hr.mono (by decide)) tk T.m37 T.F37.kp T.b37 .nil gvs_nil (ia_cons (ie_var 1) (ia_cons (ie_var 4) (ia_cons (ie_cmp op_isN ao_isN (ie_ix ix_seq (ao_ix T.hK) (ie_var 4) ie_int) ie_non) ia_nil)))))
 (iss_one (is_expr (ie_appR (ie_var 3) (ia_cons (ie_fl (ia_cons (ie_var 5) (ia_cons (ie_fld (ie_var 1) T.n55 (fa1 T.fo14_55 fa0)) (ia_cons (ie_meth0 (ie_var 0) T.n47 T.cl13 T.me13_47 (ok_Store_all_rows T) (hr.mono (by decide)) tk T.b38 .nil gvs_nil) (ia_cons (ie_meth0 (ie_var 0) T.n48 T.cl13 T.me13_48 (ok_Store_all_owners T) (hr.mono (by decide)) tk T.b16 .nil gvs_nil) ia_nil))))) ia_nil))))))
 (iss_one (is_ret (ie_kill (ie_var 3))))))
theorem sc_law : FnScope ["_law_script", "_law_at", "_law_bag_here", "_law_keys_here", "_law_store", "_law_turn", "_law_handed", "_law_names_here", "_law_rows_here", "_law_owners_here", "_law_choice", "_law_writes_here", "_law_write", "_law_due", "_law_many", "_law_reason_here", "_law_told", "_law_key"] ["_law_script"] (defScope st_law) := ⟨rfl, rfl, rfl, by decide +kernel, rfl, by decide +kernel, by decide +kernel⟩
theorem ok_law (T : Txt K w mg G fd base cs) : FnOk P w K mg base (L2.CX P w) 12 (G.fa 40) (fd 40) ["_law_script"] (spF G 1 m_law) :=
 ok_fnC (B := ⟨0, .none, none, 0⟩) T.F40 sc_law fun A outer s H E zs hr tk =>
 (iss_cons (ns := q17_law) (is_for (ms := l2_law) (passes_of rfl) rfl (ii_range1 T.z_range (ia_cons (ie_callB (call_max2 rfl) ao_max2 rfl T.z_max (by rfl) (ia_cons ie_int (ia_cons (ie_callB (call_min2 rfl) ao_min2 rfl T.z_min (by rfl) (ia_cons ie_int (ia_cons (ie_callB call_len (ao_len T.hK) rfl T.z_len (by rfl) (ia_cons (ie_var 0) ia_nil)) ia_nil))) ia_nil))) ia_nil)) (ig_name 1 sc_law.nd) (iss_cons (ns := q16_law) (is_set 2 sc_law.nd (ie_call (ok_bag T) (hr.mono (by decide)) tk T.m0 T.F0.kp T.b0 .nil gvs_nil (ia_cons (ie_var 0) (ia_cons (ie_var 1) ia_nil))))
 (iss_cons (ns := q15_law) (is_set 3 sc_law.nd (ie_call (ok_keys T) (hr.mono (by decide)) tk T.m4 T.F4.kp T.b4 .nil gvs_nil (ia_cons (ie_var 2) (ia_cons (ie_op op_addA (ao_add T.hK) ie_int (ie_call (ok_take T) (hr.mono (by decide)) tk T.m1 T.F1.kp T.b1 .nil gvs_nil (ia_cons (ie_var 2) (ia_cons ie_int ia_nil)))) ia_nil))))
 (iss_cons (ns := q14_law) (is_par 6 7 sc_law.nd (ia_cons (ie_call (ok_rows T) (hr.mono (by decide)) tk T.m7 T.F7.kp T.b7 .nil gvs_nil (ia_cons (ie_var 2) (ia_cons (ie_var 3) ia_nil))) (ia_cons (ie_call (ok_owners T) (hr.mono (by decide)) tk T.m5 T.F5.kp T.b5 .nil gvs_nil (ia_cons (ie_var 2) (ia_cons (ie_var 3) ia_nil))) ia_nil)))
 (iss_cons (ns := q13_law) (is_set 4 sc_law.nd (ie_mkN (ks := []) T.mk13 (ok_Store__init T) (hr.mono (by decide)) tk T.mc13 T.kb15_0 (ia_cons (ie_var 6) (ia_cons (ie_var 7) ia_nil)) ik_nil))
 (iss_cons (ns := q12_law) (is_asg (ie_tup (ia_cons (ie_callTy (call_dictA rfl) (ao_dictR T.hK) rfl T.z_dict (by rfl) (ia_cons (ie_var 6) ia_nil)) (ia_cons (ie_meth0 (ie_var 4) T.n48 T.cl13 T.me13_48 (ok_Store_all_owners T) (hr.mono (by decide)) tk T.b16 .nil gvs_nil) ia_nil))) (ig_tup T.hK rfl (igs_cons (ig_name 8 sc_law.nd) (igs_cons (ig_name 9 sc_law.nd) igs_nil))))
 (iss_cons (ns := q11_law) (is_for (ms := l1_law) (passes_of rfl) rfl (ii_range1 T.z_range (ia_cons ie_int ia_nil)) (ig_name 5 sc_law.nd) (iss_cons (ns := q9_law) (is_set 10 sc_law.nd (ie_tup (ia_cons (ie_call (ok_of T) (hr.mono (by decide)) tk T.m2 T.F2.kp T.b2 .nil gvs_nil (ia_cons (ie_var 2) (ia_cons (ie_fl (ia_cons ie_str (ia_cons ie_str (ia_cons ie_str ia_nil)))) ia_nil))) (ia_cons (ie_call (ok_of T) (hr.mono (by decide)) tk T.m2 T.F2.kp T.b2 .nil gvs_nil (ia_cons (ie_var 2) (ia_cons (ie_fl (ia_cons ie_str (ia_cons ie_str ia_nil))) ia_nil))) ia_nil))))
 (iss_cons (ns := q8_law) (is_set 11 sc_law.nd (ie_call (ok_writes T) (hr.mono (by decide)) tk T.m18 T.F18.kp T.b18 .nil gvs_nil (ia_cons (ie_var 2) (ia_cons (ie_var 3) (ia_cons (ie_call (ok_take T) (hr.mono (by decide)) tk T.m1 T.F1.kp T.b1 .nil gvs_nil (ia_cons (ie_var 2) (ia_cons ie_int ia_nil))) ia_nil)))))
 (iss_cons (ns := q7_law) (is_par 13 14 sc_law.nd (ia_cons (ie_lst ia_nil) (ia_cons ie_int ia_nil)))
 (iss_cons (ns := q6_law) (is_for (ms := l0_law) (passes_of rfl) rfl (ii_list T.hK (ie_var 11)) (ig_name 12 sc_law.nd) (iss_cons (ns := q4_law) (is_set 15 sc_law.nd (ie_call (ok_reason T) (hr.mono (by decide)) tk T.m19 T.F19.kp T.b19 .nil gvs_nil (ia_cons (ie_var 8) (ia_cons (ie_var 9) (ia_cons (ie_var 12) (ia_cons (ie_var 10) ia_nil))))))
 (iss_cons (ns := q3_law) (is_if (it_cmp op_isN ao_isN (ie_var 15) ie_non) (iss_one (is_expr (ie_call (ok_do T) (hr.mono (by decide)) tk T.m20 T.F20.kp T.b20 .nil gvs_nil (ia_cons (ie_var 8) (ia_cons (ie_var 9) (ia_cons (ie_var 12) (ia_cons (ie_var 10) ia_nil))))))) iss_nil)
 (iss_cons (ns := q2_law) (is_set 16 sc_law.nd (ie_if (it_cmp op_isN ao_isN (ie_var 15) ie_non) ie_non (ie_tup (ia_cons (ie_var 14) (ia_cons (ie_var 15) ia_nil)))))
 (iss_cons (ns := q1_law) (is_aug 14 sc_law.nd ip_add ao_augI ie_int)
 (iss_one (is_expr (ie_appR (ie_var 13) (ia_cons (ie_fl (ia_cons (ie_var 16) (ia_cons (ie_var 14) (ia_cons (ie_lc [(("_law_key" : Str), 17)] sc_law.nd (by show BlkOk ["_law_script", "_law_at", "_law_bag_here", "_law_keys_here", "_law_store", "_law_turn", "_law_handed", "_law_names_here", "_law_rows_here", "_law_owners_here", "_law_choice", "_law_writes_here", "_law_write", "_law_due", "_law_many", "_law_reason_here", "_law_told", "_law_key"] (defScope st_law) _ _; exact ⟨rfl, by decide +kernel, by decide +kernel, by decide +kernel, by decide +kernel⟩) (ii_list T.hK (ie_callB (call_sortA rfl) (ao_sortF T.hK) rfl T.z_sorted (by rfl) (ia_cons (ie_callTy (call_listD rfl) ao_listDF rfl T.z_list (by rfl) (ia_cons (ie_var 8) ia_nil)) ia_nil))) (fun s H C cl fp => (ige_name 17 sc_law.nd)) (fun s H C cl fp => its_nil) (fun s H C cl fp => (ie_tup (ia_cons (ie_var 17) (ia_cons (ie_dget (hu_of hr) (ie_var 8) (ie_var 17)) ia_nil))))) (ia_cons (ie_callB (call_sortA rfl) (ao_sortF T.hK) rfl T.z_sorted (by rfl) (ia_cons (ie_var 9) ia_nil)) ia_nil))))) ia_nil)))))))))
 (iss_cons (ns := q5_law) (is_if (it_cmp (op_eqD hr.units) (ao_eqH T.hK) (ie_var 10) (ie_tup (ia_cons ie_str (ia_cons ie_str ia_nil)))) (iss_one (is_set 16 sc_law.nd (ie_inb (ks := []) (k := 8) (q := lamQ "law") (pk := [0, 1]) (Ng := ["store", "steps", "clash", "lost", "batch"]) T.hK (ok_in_batch T (k := 8) (by decide)) (hr.mono (by decide)) T.m25 T.F25.kp T.kb25_0 (ie_var 4) ik_nil T.tb_law rfl T.gb_law T.gu_law rfl (by decide +kernel) (lamS1_by (sc := defScope st_law) (by decide +kernel)) (show ("_law_batch" : Str) ∉ (["_law_script", "_law_at", "_law_bag_here", "_law_keys_here", "_law_store", "_law_turn", "_law_handed", "_law_names_here", "_law_rows_here", "_law_owners_here", "_law_choice", "_law_writes_here", "_law_write", "_law_due", "_law_many", "_law_reason_here", "_law_told", "_law_key"] : List Str) by decide +kernel) (show ((["store", "steps", "clash", "lost", "batch"] : List Str) ++ (["_law_script", "_law_at", "_law_bag_here", "_law_keys_here", "_law_store", "_law_turn", "_law_handed", "_law_names_here", "_law_rows_here", "_law_owners_here", "_law_choice", "_law_writes_here", "_law_write", "_law_due", "_law_many", "_law_reason_here", "_law_told", "_law_key"] : List Str)).Nodup by decide +kernel) rfl (fun _ _ _ _ _ _ => rfl) (fun A outer s H f c_ hr => (ie_fl (ia_cons (ie_call (ok_seen T) (hr.mono (by decide)) take0 T.m39 T.F39.kp T.b39 .nil gvs_nil (ia_cons (ie_var 4) (ia_cons (ie_var 18) (ia_cons (ie_var 11) ia_nil)))) (ia_cons (ie_var 18) ia_nil))))))) (iss_one (is_set 16 sc_law.nd (ie_inb (ks := ["lost", "clash"]) (k := 8) (q := lamQ "law") (pk := [1, 0]) (Ng := ["store", "steps", "clash", "lost", "batch"]) T.hK (ok_in_batch T (k := 8) (by decide)) (hr.mono (by decide)) T.m25 T.F25.kp T.kb25_1 (ie_var 4) (ik_cons (ie_ix ix_seq (ao_ix T.hK) (ie_var 10) ie_int) (ik_cons (ie_ix ix_seq (ao_ix T.hK) (ie_var 10) ie_int) ik_nil)) T.tb_law rfl T.gb_law T.gu_law rfl (by decide +kernel) (lamS1_by (sc := defScope st_law) (by decide +kernel)) (show ("_law_batch" : Str) ∉ (["_law_script", "_law_at", "_law_bag_here", "_law_keys_here", "_law_store", "_law_turn", "_law_handed", "_law_names_here", "_law_rows_here", "_law_owners_here", "_law_choice", "_law_writes_here", "_law_write", "_law_due", "_law_many", "_law_reason_here", "_law_told", "_law_key"] : List Str) by decide +kernel) (show ((["store", "steps", "clash", "lost", "batch"] : List Str) ++ (["_law_script", "_law_at", "_law_bag_here", "_law_keys_here", "_law_store", "_law_turn", "_law_handed", "_law_names_here", "_law_rows_here", "_law_owners_here", "_law_choice", "_law_writes_here", "_law_write", "_law_due", "_law_many", "_law_reason_here", "_law_told", "_law_key"] : List Str)).Nodup by decide +kernel) rfl (fun _ _ _ _ _ _ => rfl) (fun A outer s H f c_ hr => (ie_fl (ia_cons (ie_call (ok_seen T) (hr.mono (by decide)) take0 T.m39 T.F39.kp T.b39 .nil gvs_nil (ia_cons (ie_var 4) (ia_cons (ie_var 18) (ia_cons (ie_var 11) ia_nil)))) (ia_cons (ie_var 18) ia_nil))))))))
 (iss_one (is_if (IW.it (iw_or (it_cmp (op_neD hr.units) (ao_neH T.hK) (ie_ix ix_seq (ao_ix T.hK) (ie_var 16) ie_int) (ie_var 13)) (iw_or1 (it_cmp (op_neD hr.units) (ao_neH T.hK) (ie_fld (ie_ix ix_seq (ao_ix T.hK) (ie_var 16) ie_int) T.n55 (fa1 T.fo14_55 fa0)) (ie_var 14))))) (iss_one (is_ret ie_bl)) iss_nil))))))))
 (iss_cons (ns := q10_law) (is_if (it_cmp (op_neD hr.units) (ao_neH T.hK) (ie_meth0 (ie_var 4) T.n47 T.cl13 T.me13_47 (ok_Store_all_rows T) (hr.mono (by decide)) tk T.b38 .nil gvs_nil) (ie_lc [(("_law_key" : Str), 17)] sc_law.nd (by show BlkOk ["_law_script", "_law_at", "_law_bag_here", "_law_keys_here", "_law_store", "_law_turn", "_law_handed", "_law_names_here", "_law_rows_here", "_law_owners_here", "_law_choice", "_law_writes_here", "_law_write", "_law_due", "_law_many", "_law_reason_here", "_law_told", "_law_key"] (defScope st_law) _ _; exact ⟨rfl, by decide +kernel, by decide +kernel, by decide +kernel, by decide +kernel⟩) (ii_list T.hK (ie_callB (call_sortA rfl) (ao_sortF T.hK) rfl T.z_sorted (by rfl) (ia_cons (ie_callTy (call_listD rfl) ao_listDF rfl T.z_list (by rfl) (ia_cons (ie_var 8) ia_nil)) ia_nil))) (fun s H C cl fp => (ige_name 17 sc_law.nd)) (fun s H C cl fp => its_nil) (fun s H C cl fp => (ie_tup (ia_cons (ie_var 17) (ia_cons (ie_dget (hu_of hr) (ie_var 8) (ie_var 17)) ia_nil)))))) (iss_one (is_ret ie_bl)) iss_nil)
 (iss_one (is_if (it_cmp (op_neD hr.units) (ao_neH T.hK) (ie_meth0 (ie_var 4) T.n48 T.cl13 T.me13_48 (ok_Store_all_owners T) (hr.mono (by decide)) tk T.b16 .nil gvs_nil) (ie_callB (call_sortA rfl) (ao_sortF T.hK) rfl T.z_sorted (by rfl) (ia_cons (ie_var 9) ia_nil))) (iss_one (is_ret ie_bl)) iss_nil))))))))))
 (iss_one (is_ret ie_bl)))
end
theorem hd_mk {P : Program} {w : World} {mg : Str → Option Value} {fa : Addr} {h : Heap} {K : W.Frag} (X : K.In h) (GG : h.Ns mainGlobals mg) (hmg : mg "law" = some (.ref fa)) (S : SaysP cks fns dcs tbs w h K) :
    ∃ (fd : FuncData) (cs : List (Addr × Addr)), (∀ p ∈ cs, h.get? p.2 = some { cls := .none, data := .fields #[] }) ∧ (∀ p ∈ cs, K.lookup p.2 = none) ∧ (∀ p ∈ cs, W.codeHdIn K p.1 p.2 = true) ∧
      (∀ (s : Shared) (u : Value), BindsTo s fd ⟨[u], []⟩ [("_law_script", u)]) ∧ ∀ base : Heap, K.In base → base.Ns mainGlobals mg → (∀ p ∈ cs, LamX.TabB base mg p.1 p.2) →
        ∃ G : Gx, K = G.K ∧ (∀ p, p ∈ G.tb → p.1 ∈ cs.map (·.2)) ∧ FnG P w K mg base 12 fa fd ["_law_script"] (spF G 1 m_law) := by
  obtain ⟨g12, g13, g1, g14, g5, g3, a0, Q0, a1, Q1, a2, Q2, a3, Q3, a4, Q4, a5, Q5, a6, Q6, a7, Q7, a8, Q8, a9, Q9, a10, Q10, a11, Q11, -⟩ := S.all 0 rfl
  obtain ⟨a12, Q12, a13, Q13, a14, Q14, a15, Q15, Qd15, Qs15, a16, Q16, a17, Q17, a18, Q18, a19, Q19, a20, Q20, a21, Q21, a22, Q22, Qd22, Qk22, Zkw22_0, Zkw22_1, a23, Q23, -⟩ := S.all 1 rfl
  obtain ⟨a24, Q24, a25, Q25, Qd25, Qk25, Zkw25_0, Zkw25_1, a26, Q26, a27, Q27, a28, Q28, a29, Q29, a30, Q30, a31, Q31, a32, Q32, a33, Q33, a34, Q34, a35, Q35, a36, Q36, -⟩ := S.all 2 rfl
  obtain ⟨Qd36, Qs36, a37, Q37, a38, Q38, a39, Q39, a40, Q40, Zgc_GREATEST, Zgc_LETTERS, Zgc_MOST_SIGNS, z_abs, z_bool, z_dict, z_enumerate, z_int, z_isinstance, z_len, z_list, z_max, z_min, z_range, z_sorted, z_str, pg12, hd12, po12, sa12, -⟩ := S.all 3 rfl
  obtain ⟨pg13, hd13, po13, sa13, pg14, hd14, po14, sa14, no14_35, no14_54, no14_36, no14_57, no14_56, no14_55, no12_43, no12_42, no13_43, no13_42, mm13, mi13, mf13, mp13, mm14, mi14, mf14, mp14, ea14_58, ef14_58, ea14_61, ef14_61, -⟩ := S.all 4 rfl
  obtain ⟨ea13_48, ef13_48, ea13_47, ef13_47, ea13_53, ef13_53, ea13_51, ef13_51, ea13_52, ef13_52, ea13_46, ef13_46, ea13_50, ef13_50, ea13_45, ef13_45, X1, xS1, xE1, xT1, xK1, xI1, xF1, xn1_0, xn1_1, X3, xS3, xE3, xT3, xK3, -⟩ := S.all 5 rfl
  obtain ⟨xI3, xF3, xn3_4, X5, xS5, xE5, xT5, xK5, xI5, xF5, xn5_6, xn5_7, oa14_enter, of14_enter, oi14_enter, oa14_exit, of14_exit, oi14_exit, yg1, yk1, yd1, yc1, ys1, ya1, yn1, yt1, ym1, yg3, yk3, yd3, -⟩ := S.all 6 rfl
  obtain ⟨yc3, ys3, ya3, yn3, yt3, ym3, yg5, yk5, yd5, yc5, ys5, ya5, yn5, yt5, ym5, yo5_6, yo5_7, mt5_1, mt5_3, mt5_5, ko12_13, ko12_14, kg12_NoneType, kg12_bool, kg12_int, kg12_str, kg12_tuple, kg12_list, kg12_dict, ia13, -⟩ := S.all 7 rfl
  obtain ⟨in13, it13, im13, ia14, in14, it14, im14, kf12_1, kf12_3, kf12_5, Yte15_0, Yte15_1, nd_tb, -⟩ := S.all 8 rfl
  have F0 := fu_ok (st := st_bag) (S.def_ 0 rfl) Q0
  have F1 := fu_ok (st := st_take) (S.def_ 1 rfl) Q1
  have F2 := fu_ok (st := st_of) (S.def_ 2 rfl) Q2
  have F3 := fu_ok (st := st_names) (S.def_ 3 rfl) Q3
  have F4 := fu_ok (st := st_keys) (S.def_ 4 rfl) Q4
  have F5 := fu_ok (st := st_owners) (S.def_ 5 rfl) Q5
  have F6 := fu_ok (st := st_integer) (S.def_ 6 rfl) Q6
  have F7 := fu_ok (st := st_rows) (S.def_ 7 rfl) Q7
  have F8 := fu_ok (st := st_is_name) (S.def_ 8 rfl) Q8
  have F9 := fu_ok (st := st_is_key) (S.def_ 9 rfl) Q9
  have F10 := fu_ok (st := st_InvalidPart__init) (S.def_ 10 rfl) Q10
  have F11 := fu_ok (st := st_is_integer) (S.def_ 11 rfl) Q11
  have F12 := fu_ok (st := st_checked_rows) (S.def_ 12 rfl) Q12
  have F13 := fu_ok (st := st_owner_of) (S.def_ 13 rfl) Q13
  have F14 := fu_ok (st := st_checked_owners) (S.def_ 14 rfl) Q14
  have F15 := fuD_ok (st := st_Store__init) (dvs := [V.ref (a_TE15_0 K), V.ref (a_TE15_1 K)]) (kws := []) (S.def_ 15 rfl) Q15 (dfl1 Qd15 Qs15 (by simp)) (.inl rfl)
  have F16 := fu_ok (st := st_Store_all_owners) (S.def_ 16 rfl) Q16
  have F17 := fu_ok (st := st_value) (S.def_ 17 rfl) Q17
  have F18 := fu_ok (st := st_writes) (S.def_ 18 rfl) Q18
  have F19 := fu_ok (st := st_reason) (S.def_ 19 rfl) Q19
  have F20 := fu_ok (st := st_do) (S.def_ 20 rfl) Q20
  have F21 := fu_ok (st := st_Batch__init) (S.def_ 21 rfl) Q21
  have F22 := fuD_ok (st := st_Store_batch) (dvs := []) (kws := [("clash", V.str "refuse"), ("lost", V.str "refuse")]) (S.def_ 22 rfl) Q22 (dfl0 Qd22) (.inr ⟨_, isV_ok Qk22, (kwlS Zkw22_0 (kwlS Zkw22_1 kwd0))⟩)
  have F23 := fu_ok (st := st_Batch__enter) (S.def_ 23 rfl) Q23
  have F24 := fu_ok (st := st_Batch__exit) (S.def_ 24 rfl) Q24
  have F25 := fuD_ok (st := st_in_batch) (dvs := []) (kws := [("clash", V.str "refuse"), ("lost", V.str "refuse")]) (S.def_ 25 rfl) Q25 (dfl0 Qd25) (.inr ⟨_, isV_ok Qk25, (kwlS Zkw25_0 (kwlS Zkw25_1 kwd0))⟩)
  have F26 := fu_ok (st := st_Store_has_owner) (S.def_ 26 rfl) Q26
  have F27 := fu_ok (st := st_Store_row) (S.def_ 27 rfl) Q27
  have F28 := fu_ok (st := st_reason_of) (S.def_ 28 rfl) Q28
  have F29 := fu_ok (st := st_Batch_refusal) (S.def_ 29 rfl) Q29
  have F30 := fu_ok (st := st_WriteRefused__init) (S.def_ 30 rfl) Q30
  have F31 := fu_ok (st := st_Store_bear) (S.def_ 31 rfl) Q31
  have F32 := fu_ok (st := st_Store_put) (S.def_ 32 rfl) Q32
  have F33 := fu_ok (st := st_Missing__init) (S.def_ 33 rfl) Q33
  have F34 := fu_ok (st := st_Store_drop) (S.def_ 34 rfl) Q34
  have F35 := fu_ok (st := st_do_write) (S.def_ 35 rfl) Q35
  have F36 := fuD_ok (st := st_Batch_write) (dvs := [V.non]) (kws := []) (S.def_ 36 rfl) Q36 (dfl1 Qd36 Qs36 (by simp)) (.inl rfl)
  have F37 := fu_ok (st := st_tried) (S.def_ 37 rfl) Q37
  have F38 := fu_ok (st := st_Store_all_rows) (S.def_ 38 rfl) Q38
  have F39 := fu_ok (st := st_seen) (S.def_ 39 rfl) Q39
  have F40 := fuC_ok (st := st_law) (S.def_ 40 rfl) Q40
  obtain ⟨_, gc_GREATEST⟩ := litI_ok Zgc_GREATEST
  obtain ⟨_, gc_LETTERS⟩ := litS_ok Zgc_LETTERS
  obtain ⟨_, gc_MOST_SIGNS⟩ := litI_ok Zgc_MOST_SIGNS
  obtain ⟨_, _, _, tle15_0, tce15_0, tde15_0, tze15_0, tve15_0⟩ := tuB_ok Yte15_0
  obtain ⟨_, _, _, tle15_1, tce15_1, tde15_1, tze15_1, tve15_1⟩ := tuB_ok Yte15_1
  obtain rfl : fa = (a_f40 K) := by have e := hmg.symm.trans (W.mg_of X GG (isR_ok a40)); cases e; rfl
  let fd : Nat → FuncData := fun i => fdG K (([(a_f0 K), (a_f1 K), (a_f2 K), (a_f3 K), (a_f4 K), (a_f5 K), (a_f6 K), (a_f7 K), (a_f8 K), (a_f9 K), (a_f10 K), (a_f11 K), (a_f12 K), (a_f13 K), (a_f14 K), (a_f15 K), (a_f16 K), (a_f17 K), (a_f18 K), (a_f19 K), (a_f20 K), (a_f21 K), (a_f22 K), (a_f23 K), (a_f24 K), (a_f25 K), (a_f26 K), (a_f27 K), (a_f28 K), (a_f29 K), (a_f30 K), (a_f31 K), (a_f32 K), (a_f33 K), (a_f34 K), (a_f35 K), (a_f36 K), (a_f37 K), (a_f38 K), (a_f39 K), (a_f40 K)] : List Addr).getD i 0)
  let cs : Nat → Addr × Addr := fun i => match i with
    | _ => ((a_cA_law K), (a_PA_law K))
  refine ⟨fd 40, [((a_cA_law K), (a_PA_law K))], ?_, ?_, ?_, F40.fn.bnd fun _ _ _ _ _ _ _ => rfl, fun base hKb hNb TB => ?_⟩
  · intro p hp
    simp only [List.mem_cons, List.not_mem_nil, or_false] at hp
    rcases hp with rfl
    · exact (S.empty _ (List.mem_of_getElem? (i := 0) rfl))
  · intro p hp
    simp only [List.mem_cons, List.not_mem_nil, or_false] at hp
    rcases hp with rfl
    · exact (S.out _ (List.mem_of_getElem? (i := 0) rfl))
  · intro p hp
    simp only [List.mem_cons, List.not_mem_nil, or_false] at hp
    rcases hp with rfl
    · exact (S.hd _ (List.mem_of_getElem? (i := 0) rfl))
  let G : Gx := mkG K [(a_C1 K), (a_C1 K), (a_C1 K), (a_C3 K), (a_C1 K), (a_C5 K), (a_C1 K), (a_C1 K), (a_C1 K), (a_C1 K), (a_C1 K), (a_C1 K), (a_C12 K), (a_C13 K), (a_C14 K)] [(a_f0 K), (a_f1 K), (a_f2 K), (a_f3 K), (a_f4 K), (a_f5 K), (a_f6 K), (a_f7 K), (a_f8 K), (a_f9 K), (a_f10 K), (a_f11 K), (a_f12 K), (a_f13 K), (a_f14 K), (a_f15 K), (a_f16 K), (a_f17 K), (a_f18 K), (a_f19 K), (a_f20 K), (a_f21 K), (a_f22 K), (a_f23 K), (a_f24 K), (a_f25 K), (a_f26 K), (a_f27 K), (a_f28 K), (a_f29 K), (a_f30 K), (a_f31 K), (a_f32 K), (a_f33 K), (a_f34 K), (a_f35 K), (a_f36 K), (a_f37 K), (a_f38 K), (a_f39 K), (a_f40 K)] [] nms nms_nd nms_sz [((a_PA_law K), (lamQ "law"))]
  have T : Txt K w mg G fd base cs := {
    hK := rfl
    tb_law := (TB ((a_cA_law K), (a_PA_law K)) (by simp))
    gb_law := (show ((a_PA_law K), (lamQ "law")) ∈ ([((a_PA_law K), (lamQ "law"))] : List (Addr × Str)) from .head _)
    gu_law := fun q' hq => tb_one (l := [((a_PA_law K), (lamQ "law"))]) (P := (a_PA_law K)) (dtr nd_tb) (.head _) hq
    n0 := rfl
    n1 := rfl
    n4 := rfl
    n6 := rfl
    n7 := rfl
    n35 := rfl
    n36 := rfl
    n42 := rfl
    n43 := rfl
    n45 := rfl
    n46 := rfl
    n47 := rfl
    n48 := rfl
    n50 := rfl
    n51 := rfl
    n52 := rfl
    n53 := rfl
    n54 := rfl
    n55 := rfl
    n56 := rfl
    n57 := rfl
    n58 := rfl
    n61 := rfl
    F0 := F0
    b0 := F0.b2 fun _ _ _ _ _ _ _ _ => rfl
    m0 := W.mg_of X GG (isR_ok a0)
    F1 := F1
    b1 := F1.b2 fun _ _ _ _ _ _ _ _ => rfl
    m1 := W.mg_of X GG (isR_ok a1)
    F2 := F2
    b2 := F2.b2 fun _ _ _ _ _ _ _ _ => rfl
    m2 := W.mg_of X GG (isR_ok a2)
    F3 := F3
    b3 := F3.b2 fun _ _ _ _ _ _ _ _ => rfl
    m3 := W.mg_of X GG (isR_ok a3)
    F4 := F4
    b4 := F4.b2 fun _ _ _ _ _ _ _ _ => rfl
    m4 := W.mg_of X GG (isR_ok a4)
    F5 := F5
    b5 := F5.b2 fun _ _ _ _ _ _ _ _ => rfl
    m5 := W.mg_of X GG (isR_ok a5)
    F6 := F6
    b6 := F6.b1 fun _ _ _ _ _ _ _ => rfl
    m6 := W.mg_of X GG (isR_ok a6)
    F7 := F7
    b7 := F7.b2 fun _ _ _ _ _ _ _ _ => rfl
    m7 := W.mg_of X GG (isR_ok a7)
    F8 := F8
    b8 := F8.b1 fun _ _ _ _ _ _ _ => rfl
    m8 := W.mg_of X GG (isR_ok a8)
    F9 := F9
    b9 := F9.b1 fun _ _ _ _ _ _ _ => rfl
    m9 := W.mg_of X GG (isR_ok a9)
    F10 := F10
    b10 := F10.b3 fun _ _ _ _ _ _ _ _ _ => rfl
    F11 := F11
    b11 := F11.b1 fun _ _ _ _ _ _ _ => rfl
    m11 := W.mg_of X GG (isR_ok a11)
    F12 := F12
    b12 := F12.b1 fun _ _ _ _ _ _ _ => rfl
    m12 := W.mg_of X GG (isR_ok a12)
    F13 := F13
    b13 := F13.b1 fun _ _ _ _ _ _ _ => rfl
    m13 := W.mg_of X GG (isR_ok a13)
    F14 := F14
    b14 := F14.b2 fun _ _ _ _ _ _ _ _ => rfl
    m14 := W.mg_of X GG (isR_ok a14)
    F15 := ⟨_, _, F15⟩
    kb15_0 := kbd_of (pn := ["self", "rows", "owners"]) (kn := []) F15 3 [] (0 :: ([0, 1] : List Nat).map (· + 1)) rfl rfl rfl rfl rfl (by simp only [List.length_cons, List.length_nil]; decide +kernel) (by simp only [List.length_cons, List.length_nil]; decide +kernel) (gvs_cons (gv_tup tle15_0 tce15_0 tde15_0 tze15_0 tve15_0 gvs_nil) (gvs_cons (gv_tup tle15_1 tce15_1 tde15_1 tze15_1 tve15_1 gvs_nil) gvs_nil))
    F16 := F16
    b16 := F16.b1 fun _ _ _ _ _ _ _ => rfl
    F17 := F17
    b17 := F17.b1 fun _ _ _ _ _ _ _ => rfl
    m17 := W.mg_of X GG (isR_ok a17)
    F18 := F18
    b18 := F18.b3 fun _ _ _ _ _ _ _ _ _ => rfl
    m18 := W.mg_of X GG (isR_ok a18)
    F19 := F19
    b19 := F19.b4 fun _ _ _ _ _ _ _ _ _ _ => rfl
    m19 := W.mg_of X GG (isR_ok a19)
    F20 := F20
    b20 := F20.b4 fun _ _ _ _ _ _ _ _ _ _ => rfl
    m20 := W.mg_of X GG (isR_ok a20)
    F21 := F21
    b21 := F21.b4 fun _ _ _ _ _ _ _ _ _ _ => rfl
    F22 := F22
    kb22_0 := kbd_of (pn := ["self"]) (kn := ["clash", "lost"]) F22 1 ["clash", "lost"] [0, 1, 2] rfl rfl rfl rfl rfl (by decide +kernel) (by decide +kernel) (gvs_cons gv_str (gvs_cons gv_str gvs_nil))
    F23 := F23
    b23 := F23.b1 fun _ _ _ _ _ _ _ => rfl
    F24 := F24
    b24 := F24.b4 fun _ _ _ _ _ _ _ _ _ _ => rfl
    F25 := F25
    kb25_0 := kbd_of (pn := ["store", "steps"]) (kn := ["clash", "lost"]) F25 2 [] [0, 1, 2, 3] rfl rfl rfl rfl rfl (by decide +kernel) (by decide +kernel) (gvs_cons gv_str (gvs_cons gv_str gvs_nil))
    kb25_1 := kbd_of (pn := ["store", "steps"]) (kn := ["clash", "lost"]) F25 2 ["lost", "clash"] [0, 1, 3, 2] rfl rfl rfl rfl rfl (by decide +kernel) (by decide +kernel) (gvs_cons gv_str (gvs_cons gv_str gvs_nil))
    m25 := W.mg_of X GG (isR_ok a25)
    F26 := F26
    b26 := F26.b2 fun _ _ _ _ _ _ _ _ => rfl
    F27 := F27
    b27 := F27.b2 fun _ _ _ _ _ _ _ _ => rfl
    F28 := F28
    b28 := F28.b4 fun _ _ _ _ _ _ _ _ _ _ => rfl
    m28 := W.mg_of X GG (isR_ok a28)
    F29 := F29
    b29 := F29.b4 fun _ _ _ _ _ _ _ _ _ _ => rfl
    F30 := F30
    b30 := F30.b3 fun _ _ _ _ _ _ _ _ _ => rfl
    F31 := F31
    b31 := F31.b2 fun _ _ _ _ _ _ _ _ => rfl
    F32 := F32
    b32 := F32.b3 fun _ _ _ _ _ _ _ _ _ => rfl
    F33 := F33
    b33 := F33.b2 fun _ _ _ _ _ _ _ _ => rfl
    F34 := F34
    b34 := F34.b2 fun _ _ _ _ _ _ _ _ => rfl
    F35 := F35
    b35 := F35.b3 fun _ _ _ _ _ _ _ _ _ => rfl
    m35 := W.mg_of X GG (isR_ok a35)
    F36 := F36
    kb36_0 := kbd_of (pn := ["self", "deed", "name", "value"]) (kn := []) F36 3 [] [0, 1, 2, 3] rfl rfl rfl rfl rfl (by decide +kernel) (by decide +kernel) (gvs_cons gv_non gvs_nil)
    kb36_1 := kbd_of (pn := ["self", "deed", "name", "value"]) (kn := []) F36 4 [] [0, 1, 2, 3] rfl rfl rfl rfl rfl (by decide +kernel) (by decide +kernel) (gvs_cons gv_non gvs_nil)
    F37 := F37
    b37 := F37.b3 fun _ _ _ _ _ _ _ _ _ => rfl
    m37 := W.mg_of X GG (isR_ok a37)
    F38 := F38
    b38 := F38.b1 fun _ _ _ _ _ _ _ => rfl
    F39 := F39
    b39 := F39.b3 fun _ _ _ _ _ _ _ _ _ => rfl
    m39 := W.mg_of X GG (isR_ok a39)
    F40 := F40
    b40 := F40.fn.b1 fun _ _ _ _ _ _ _ => rfl
    m40 := W.mg_of X GG (isR_ok a40)
    mc12 := W.mg_of X GG (isR_ok g12)
    mc13 := W.mg_of X GG (isR_ok g13)
    mc1 := W.mg_of X GG (isR_ok g1)
    mc14 := W.mg_of X GG (isR_ok g14)
    mc5 := W.mg_of X GG (isR_ok g5)
    mc3 := W.mg_of X GG (isR_ok g3)
    z_abs := W.mg_none_of X GG (noA z_abs)
    z_bool := W.mg_none_of X GG (noA z_bool)
    z_dict := W.mg_none_of X GG (noA z_dict)
    z_enumerate := W.mg_none_of X GG (noA z_enumerate)
    z_int := W.mg_none_of X GG (noA z_int)
    z_isinstance := W.mg_none_of X GG (noA z_isinstance)
    z_len := W.mg_none_of X GG (noA z_len)
    z_list := W.mg_none_of X GG (noA z_list)
    z_max := W.mg_none_of X GG (noA z_max)
    z_min := W.mg_none_of X GG (noA z_min)
    z_range := W.mg_none_of X GG (noA z_range)
    z_sorted := W.mg_none_of X GG (noA z_sorted)
    z_str := W.mg_none_of X GG (noA z_str)
    gc_GREATEST := ⟨_, W.mg_of X GG gc_GREATEST, ⟨_, rfl⟩⟩
    gc_LETTERS := ⟨_, W.mg_of X GG gc_LETTERS, ⟨_, rfl⟩⟩
    gc_MOST_SIGNS := ⟨_, W.mg_of X GG gc_MOST_SIGNS, ⟨_, rfl⟩⟩
    cl12 := ⟨pg12, hd12, po12, (dtr sa12)⟩
    cl13 := ⟨pg13, hd13, po13, (dtr sa13)⟩
    cl14 := ⟨pg14, hd14, po14, (dtr sa14)⟩
    fo14_35 := ⟨⟨pg14, hd14, po14, (dtr sa14)⟩, (noA no14_35)⟩
    fo14_54 := ⟨⟨pg14, hd14, po14, (dtr sa14)⟩, (noA no14_54)⟩
    fo14_36 := ⟨⟨pg14, hd14, po14, (dtr sa14)⟩, (noA no14_36)⟩
    fo14_57 := ⟨⟨pg14, hd14, po14, (dtr sa14)⟩, (noA no14_57)⟩
    fo14_56 := ⟨⟨pg14, hd14, po14, (dtr sa14)⟩, (noA no14_56)⟩
    fo14_55 := ⟨⟨pg14, hd14, po14, (dtr sa14)⟩, (noA no14_55)⟩
    fo12_43 := ⟨⟨pg12, hd12, po12, (dtr sa12)⟩, (noA no12_43)⟩
    fo12_42 := ⟨⟨pg12, hd12, po12, (dtr sa12)⟩, (noA no12_42)⟩
    fo13_43 := ⟨⟨pg13, hd13, po13, (dtr sa13)⟩, (noA no13_43)⟩
    fo13_42 := ⟨⟨pg13, hd13, po13, (dtr sa13)⟩, (noA no13_42)⟩
    mk13 := ⟨mm13, (dtr mi13), mf13, mp13⟩
    mk14 := ⟨mm14, (dtr mi14), mf14, mp14⟩
    me14_58 := ⟨(dtr ea14_58), ef14_58, F29.kp⟩
    me14_61 := ⟨(dtr ea14_61), ef14_61, F36.kp⟩
    me13_48 := ⟨(dtr ea13_48), ef13_48, F16.kp⟩
    me13_47 := ⟨(dtr ea13_47), ef13_47, F38.kp⟩
    me13_53 := ⟨(dtr ea13_53), ef13_53, F22.kp⟩
    me13_51 := ⟨(dtr ea13_51), ef13_51, F31.kp⟩
    me13_52 := ⟨(dtr ea13_52), ef13_52, F34.kp⟩
    me13_46 := ⟨(dtr ea13_46), ef13_46, F26.kp⟩
    me13_50 := ⟨(dtr ea13_50), ef13_50, F32.kp⟩
    me13_45 := ⟨(dtr ea13_45), ef13_45, F27.kp⟩
    oc14_enter := ⟨(dtr oa14_enter), of14_enter, oi14_enter⟩
    oc14_exit := ⟨(dtr oa14_exit), of14_exit, oi14_exit⟩
    oex1 := ⟨(exB_ok X1), (dtr xS1), (dtr xE1), (dtr xT1), xK1⟩
    xi1 := (dtr xI1)
    xt1 := (dtr xF1)
    xn1_0 := (noA xn1_0)
    xn1_1 := (noA xn1_1)
    oex3 := ⟨(exB_ok X3), (dtr xS3), (dtr xE3), (dtr xT3), xK3⟩
    xi3 := (dtr xI3)
    xt3 := (dtr xF3)
    xn3_4 := (noA xn3_4)
    oex5 := ⟨(exB_ok X5), (dtr xS5), (dtr xE5), (dtr xT5), xK5⟩
    xi5 := (dtr xI5)
    xt5 := (dtr xF5)
    xn5_6 := (noA xn5_6)
    xn5_7 := (noA xn5_7)
    xf5_6 := ⟨⟨(dtr yg5), (noA yk5), (dtr ys5), yd5⟩, (noA yo5_6)⟩
    xf5_7 := ⟨⟨(dtr yg5), (noA yk5), (dtr ys5), yd5⟩, (noA yo5_7)⟩
    mt5 := mt_ok (al1 (dtr mt5_1) (al1 (dtr mt5_3) (al1 (dtr mt5_5) al0)))
    kit := ⟨kit_all (fun k j b e => lookup_all (l := [((12, 13), false), ((12, 14), false)]) (P := fun (p : Nat × Nat) b => W.kitOne K (.ref (G.ca p.2)) (.ref (G.ca p.1)) = some b) (a := (k, j)) (al1 (dtr ko12_13) (al1 (dtr ko12_14) al0)) e) (ktG_ok (fa1 (ty7 (dtr kg12_NoneType) (dtr kg12_bool) (dtr kg12_int) (dtr kg12_str) (dtr kg12_tuple) (dtr kg12_list) (dtr kg12_dict)) fa0)) (fun _ _ _ e => nomatch e), fun q k b e => match q with | .ty a => nomatch e | .own j => lookup_all (l := [((12, 13), false), ((12, 14), false)]) (P := fun (p : Nat × Nat) _ => InsOk K (G.ca p.2)) (a := (j, k)) (al1 ⟨⟨pg13, hd13, po13, (dtr sa13)⟩, (dtr ia13), (dtr in13), (dtr it13), (dtr im13)⟩ (al1 ⟨⟨pg14, hd14, po14, (dtr sa14)⟩, (dtr ia14), (dtr in14), (dtr it14), (dtr im14)⟩ al0)) e⟩
    kitE := ⟨fun q k b e => kit_all (f := ktF [((12, 1), false), ((12, 3), false), ((12, 5), false)]) (g := ktg0) (h := ktH []) (fun k j b e => lookup_all (l := [((12, 1), false), ((12, 3), false), ((12, 5), false)]) (P := fun (p : Nat × Nat) b => W.kitOne K (.ref (G.ca p.2)) (.ref (G.ca p.1)) = some b) (a := (k, j)) (al1 (dtr kf12_1) (al1 (dtr kf12_3) (al1 (dtr kf12_5) al0))) e) (fun _ _ _ e => nomatch e) (fun a j b e => lookup_all (l := []) (P := fun (p : String × Nat) b => W.kitOne K (.ref (G.ca p.2)) (.type p.1) = some b) (a := (a, j)) al0 e) q (.own k) b e,
      fun q k b e => match q with | .ty a => lookup_all (l := []) (P := fun (p : String × Nat) _ => ExcOk K (G.ca p.2)) (a := (a, k)) al0 e | .own j => lookup_all (l := [((12, 1), false), ((12, 3), false), ((12, 5), false)]) (P := fun (p : Nat × Nat) _ => ExcOk K (G.ca p.2)) (a := (j, k)) (al1 ⟨yc1, (dtr yg1), (noA yk1), (dtr ys1), (dtr ya1), (dtr yn1), (dtr yt1), (dtr ym1)⟩ (al1 ⟨yc3, (dtr yg3), (noA yk3), (dtr ys3), (dtr ya3), (dtr yn3), (dtr yt3), (dtr ym3)⟩ (al1 ⟨yc5, (dtr yg5), (noA yk5), (dtr ys5), (dtr ya5), (dtr yn5), (dtr yt5), (dtr ym5)⟩ al0))) e⟩
  }
  exact ⟨G, rfl, fun p hp => List.mem_map_of_mem (f := fun x : Addr × Str => x.1) hp, .of (ok_law T)⟩
end Wk12
open PySem PySem.W PyProof.Rows in
set_option maxRecDepth 100000 in
set_option maxHeartbeats 0 in
theorem Wk12.end_pre (lawTrue : ∀ ns : List Int, ns.length ≤ 63 → ∃ h', Wk12.m_law [PI.AV.fl (ns.map PI.AV.int)] [] = PI.Res.ok (PI.AV.bl true) h') : PySem.Challenge.rw_chunkedloads_k12_writes.Holds := by
 w_on; o_law
 refine HandSHeadRun.head_any (q := Wk12.view) (H := PI.hookP 30000 Wk12.cks Wk12.fns Wk12.dcs Wk12.tbs) (ob := fun s => Wk12.looks (HandSHeadRun.getT s)) (M := 20000) (loose := Wk12.loose) (d := HandSHeadRun.topDef Wk12.prog 38) (kwd := []) (fun s => PI.obsP_eq s) (by kernel_rfl) (fun s => by kernel_rfl) ?run (by rfl) (by rfl) (by rfl) (by rfl) (by assumption) (by decide +kernel) ⟨rfl, rfl, rfl, rfl, rfl, by decide +kernel⟩ ?hw ?hc
 case run => intro w os; kernel_rfl
 case hw => w_witness2
 case hc =>
  refine PI.walk_hd (l := PySem.Challenge.rw_chunkedloads_k12_writes) (k := 12) (m := Wk12.m_law) rfl rfl ⟨rfl, by decide, by decide⟩ lawTrue fun w mg fa h Y GG hmg => ?_
  obtain ⟨K, KX, S⟩ := Y
  exact ⟨K, KX, Wk12.hd_mk KX GG hmg S⟩
namespace Wk12
open PySem PySem.Spec PyProof.Rows L2 PI
def BagAt (h : AH) (n : Nat) : Prop := ∃ c m : Int, h[n]? = some (some (.lst [.int c, .int m])) ∧ 0 ≤ c ∧ 0 ≤ m ∧ m < 2147483648
def Drew (n : Nat) (h h' : AH) : Prop := BagAt h' n ∧ h'.length = h.length ∧ ∀ j, j ≠ n → h'[j]? = h[j]?
theorem Drew.trans {n : Nat} {h h1 h2 : AH} (a : Drew n h h1) (b : Drew n h1 h2) : Drew n h h2 := ⟨b.1, b.2.1.trans a.2.1, fun j q => (b.2.2 j q).trans (a.2.2 j q)⟩
theorem drew_set {n : Nat} {h : AH} {o : AO} {c m : Int} (e : h[n]? = some (some o)) (h0 : 0 ≤ c) (h1 : 0 ≤ m) (h2 : m < 2147483648) : Drew n h (h.set n (some (.lst [.int c, .int m]))) := by
 have hl := (List.getElem?_eq_some_iff.mp e).1
 refine ⟨⟨c, m, by simp [hl], h0, h1, h2⟩, by simp, fun j q => by rw [gsn (Ne.symm q)]⟩
theorem take_ok {h : AH} {n : Nat} {k : Int} (b : BagAt h n) (hk : 0 < k) (hk2 : k < 10 ^ 40) : ∃ d h', c_take [.ref n, .int k] h = .ok (.int d) h' ∧ 0 ≤ d ∧ d < k ∧ Drew n h h' := by
 obtain ⟨c, m, e, h0, h1, h2⟩ := b
 obtain ⟨hl, e'⟩ := List.getElem?_eq_some_iff.mp e
 by_cases hc : 0 < c
 ·have hk3 : k < 1000000000000000000000000000000000000000000000000000000000000 := by omega
  refine ⟨c % k, _, ?_, Int.emod_nonneg _ (by omega), Int.emod_lt_of_pos _ hk, drew_set (c := c / k) (m := m) e (Int.ediv_nonneg h0 (by omega)) h1 h2⟩
  simp [c_take, m_take, b_take, List.lookup, e', hl, hc, hk, hk3]
 ·refine ⟨(m * 48271 + 70001) % 2147483629 / 13 * 39373 % 2147483647 / 32 % k, _, ?_, Int.emod_nonneg _ (by omega), Int.emod_lt_of_pos _ hk, drew_set (c := c) (m := (m * 48271 + 70001) % 2147483629) e h0 (by omega) (by omega)⟩
  simp [c_take, m_take, b_take, List.lookup, e', hc, hk, hl]
theorem of_ok {h : AH} {n : Nat} {xs : List AV} (b : BagAt h n) (hk : 0 < xs.length) (hk2 : xs.length < 1000000) : ∃ v h', c_of [.ref n, .fl xs] h = .ok v h' ∧ v ∈ xs ∧ Drew n h h' := by
 obtain ⟨d, h', e, d0, d1, D⟩ := take_ok (k := (xs.length : Int)) b (by omega) (by omega)
 obtain ⟨j, rfl⟩ : ∃ j : Nat, d = (j : Int) := ⟨d.toNat, by omega⟩
 have hj : j < xs.length := by omega
 refine ⟨xs[j], h', ?_, List.getElem_mem _, D⟩
 simp [c_of, m_of, b_of, List.lookup, e, hj]
theorem bag_loop (ns : List AV) (hz : ∀ v, v ∈ ns → ∃ k : Nat, k < 63 ∧ ∃ z : Int, v = .tup [.int (k : Nat), .int z]) : ∀ (s a c x : AV) (m : Int) (p q : Option AV) (h : AH), 0 ≤ m → m < 2147483648 → ∃ m' p' q', 0 ≤ m' ∧ m' < 2147483648 ∧ forL (gT 2 (gsCons (gN 4) (gsCons (gN 5) gsNil))) l0_bag ns [some s, some a, some c, some (.int m), p, q] h = .nx [some s, some a, some c, some (.int m'), p', q'] h := by
 induction ns with
 | nil => exact fun s a c x m p q h h0 h1 => ⟨m, p, q, h0, h1, rfl⟩
 | cons v r ih =>
  intro s a c x m p q h h0 h1
  obtain ⟨k, hk, z, rfl⟩ := hz v (by simp)
  have e : forL (gT 2 (gsCons (gN 4) (gsCons (gN 5) gsNil))) l0_bag (.tup [.int (k : Nat), .int z] :: r) [some s, some a, some c, some (.int m), p, q] h = forL (gT 2 (gsCons (gN 4) (gsCons (gN 5) gsNil))) l0_bag r [some s, some a, some c, some (.int ((m * 40692 + z % 2147483249 + 977 * (k : Int)) % 2147483399)), some (.int (k : Nat)), some (.int z)] h := by
   rw [forL]
   simp [l0_bag, List.lookup]
  rw [e]
  exact ih (fun v hv => hz v (by simp [hv])) s a c x _ _ _ h (by omega) (by omega)
theorem bag_ok (ns : List Int) (hn : ns.length ≤ 63) (a : Nat) (ha : a < 1000) (h : AH) : ∃ o, c_bag [.fl (ns.map .int), .int a] h = .ok (.ref h.length) (h ++ [some o]) ∧ BagAt (h ++ [some o]) h.length := by
 obtain ⟨x, hx⟩ : ∃ x : Int, x = (if h : a < ns.length then ns[a] else 0) := ⟨_, rfl⟩
 have e1 : ∀ p q r s, sSet 2 (mIf (mB (mBin kLt (mVar 1) (mL kLen (mCons (mVar 0) mNil)))) (mBin kIx (mVar 0) (mVar 1)) (mC (.int 0))) [some (.fl (ns.map .int)), some (.int a), p, q, r, s] h = .nx [some (.fl (ns.map .int)), some (.int a), some (.int x), q, r, s] h := by
  intro p q r s
  subst hx
  by_cases hl : a < ns.length
  ·simp [List.lookup, hl]
  ·simp [List.lookup, hl]
 obtain ⟨m', p', q', m0, m1, e2⟩ := bag_loop (enumA ((ns.map .int).take 63)) (by
  intro v hv
  unfold enumA at hv
  rw [List.mem_iff_getElem] at hv
  obtain ⟨i, hi, e⟩ := hv
  simp at hi
  refine ⟨i, by omega, ns[i], ?_⟩
  simp at e
  rw [← e]) (.fl (ns.map .int)) (.int a) (.int x) .non (5171 * a + 617) none none h (by omega) (by omega)
 obtain ⟨y, hy⟩ : ∃ y : Int, y = (if x < 0 then -x else x) := ⟨_, rfl⟩
 have y0 : 0 ≤ y := by rw [hy]; split <;> omega
 refine ⟨.lst [.int (if 1000000000000000000 ≤ y then y else 0), .int m'], ?_, ⟨(if 1000000000000000000 ≤ y then y else 0), m', by simp, by split <;> omega, m0, m1⟩⟩
 have e3 : ∀ (q r s : Option AV), sSet 3 (mBin kAdd (mBin kMul (mC (.int 5171)) (mVar 1)) (mC (.int 617))) [some (.fl (ns.map .int)), some (.int a), some (.int x), q, r, s] h = .nx [some (.fl (ns.map .int)), some (.int a), some (.int x), some (.int (5171 * a + 617)), r, s] h := by
  intro q r s
  simp [List.lookup]
 have e4 : ∀ τ, (mEnumA (mCons (mSl (mVar 0) none (some (mC (.int 63)))) mNil)) (some (.fl (ns.map .int)) :: τ) h = .ok (enumA ((ns.map .int).take 63)) h := by
  intro τ
  have hc : cutA (ns.map AV.int) none (some 63) = (ns.map AV.int).take 63 := by
   unfold cutA HT.sIx
   simp
  simp [List.lookup, kSl, hc]
 simp only [c_bag, chk, m_bag, runF, b_bag]
 simp only [List.append_nil, List.length_cons, List.length_nil, List.map_cons, List.map_nil, List.replicate, Nat.reduceAdd, Nat.reduceSub, if_true, List.cons_append, List.nil_append]
 rw [sSeq, e1]
 simp only
 rw [sSeq, e3]
 simp only
 rw [sSeq, sFor, e4]
 simp only [Res.bindS]
 rw [e2]
 simp only
 have e5 : (10 : Int) ^ 18 = 1000000000000000000 := by decide
 by_cases hc : 1000000000000000000 ≤ y
 ·simp [List.lookup, hc, e5, ← hy]
 ·simp [List.lookup, hc, e5, ← hy]
def knd : AV → Option String
 | .non => some "NoneType"
 | .bl _ => some "bool"
 | .int _ => some "int"
 | .str _ => some "str"
 | .tup _ => some "tuple"
 | .fl _ => some "list"
 | _ => none
def isS : AV → Bool
 | .str _ => true
 | _ => false
def isI : AV → Bool
 | .int _ => true
 | .bl _ => true
 | _ => false
def isBl : AV → Bool
 | .bl _ => true
 | _ => false
theorem isi_str {v : AV} {n : String} (e : knd v = some n) (h : AH) : kIsi kt [v, .ty "str"] h = some (.bl (isS v), h) := by
 cases v <;> first | (simp [knd] at e; done) | (simp [kIsi, typA, clsA, kt, ktOf, ktB, ktT, isS]; done)
theorem isi_int {v : AV} {n : String} (e : knd v = some n) (h : AH) : kIsi kt [v, .ty "int"] h = some (.bl (isI v), h) := by
 cases v <;> first | (simp [knd] at e; done) | (simp [kIsi, typA, clsA, kt, ktOf, ktB, ktT, isI]; done)
theorem isi_bool {v : AV} {n : String} (e : knd v = some n) (h : AH) : kIsi kt [v, .ty "bool"] h = some (.bl (isBl v), h) := by
 cases v <;> first | (simp [knd] at e; done) | (simp [kIsi, typA, clsA, kt, ktOf, ktB, ktT, isBl]; done)
def Kd (v : AV) : Prop := ∃ n, knd v = some n
theorem Kd.pl {v : AV} (k : Kd v) : plainV v = true := by
 obtain ⟨n, e⟩ := k
 cases v <;> first | rfl | (simp [knd] at e; done)
theorem Kd.ne {v : AV} (k : Kd v) : notE v = true := notE_knd k.pl
def gdB (v : AV) : Bool := match v with
 | .str x => txB x
 | v => (knd v).isSome
theorem gd_kd {v : AV} (g : gdB v = true) : Kd v := by
 cases v <;> first | exact ⟨_, rfl⟩ | (simp [gdB, knd] at g; done)
def ABC : Str := "abcdefghijklmnopqrstuvwxyz"
def okC (k : Nat) : Bool := decide (k ∈ ABC.cps.toList)
def lenB (x : Str) : Bool := decide (1 ≤ x.length ∧ x.length ≤ 8)
def fitB (x : Str) : Bool := lenB x && x.cps.toList.all okC
theorem okC_no {k : Nat} (e : okC k = false) : ¬ k ∈ ABC.cps.toList := by simpa [okC] using e
theorem okC_yes {k : Nat} (e : okC k = true) : k ∈ ABC.cps.toList := by simpa [okC] using e
theorem okC_rng {k : Nat} (e : okC k = true) : 97 ≤ k ∧ k ≤ 122 := by
 have := okC_yes e
 have h : ABC.cps.toList.all (fun k => decide (97 ≤ k ∧ k ≤ 122)) = true := by decide +kernel
 exact of_decide_eq_true (List.all_eq_true.mp h k this)
theorem okC_of {k : Nat} (h1 : 97 ≤ k) (h2 : k ≤ 122) : okC k = true := by
 have h : (List.range' 97 26).all okC = true := by decide +kernel
 exact List.all_eq_true.mp h k (List.mem_range'_1.mpr ⟨h1, by omega⟩)
theorem isnm_loop (a : AV) (h : AH) : ∀ (l : List Nat) (p : Option AV), ∃ p', forL (gN 1) l0_is_name (l.map fun k => .str ⟨#[k]⟩) [some a, p] h = if l.all okC then .nx [some a, p'] h else .rt (.bl false) h
 | [], p => ⟨p, rfl⟩
 | k :: l, p => by
  cases q : okC k with
  | false =>
   have q' := okC_no q
   refine ⟨p, ?_⟩
   rw [List.map_cons, forL, List.all_cons, q]
   simp [l0_is_name, kInS, (show ("abcdefghijklmnopqrstuvwxyz" : Str) = ABC from rfl), q']
  | true =>
   have q' := okC_yes q
   obtain ⟨p', e⟩ := isnm_loop a h l (some (.str ⟨#[k]⟩))
   refine ⟨p', ?_⟩
   rw [List.all_cons, q, Bool.true_and, ← e, List.map_cons, forL]
   simp [l0_is_name, kInS, (show ("abcdefghijklmnopqrstuvwxyz" : Str) = ABC from rfl), q']
theorem lenB_cases (x : Str) : (lenB x = true ∧ (1 : Int) ≤ x.length ∧ (x.length : Int) ≤ 8) ∨ (lenB x = false ∧ ¬ (1 : Int) ≤ x.length) ∨ (lenB x = false ∧ (1 : Int) ≤ x.length ∧ ¬ (x.length : Int) ≤ 8) := by
 by_cases h1 : (1 : Int) ≤ x.length
 ·by_cases h2 : (x.length : Int) ≤ 8
  ·exact .inl ⟨decide_eq_true (by omega), h1, h2⟩
  ·exact .inr (.inr ⟨decide_eq_false (by omega), h1, h2⟩)
 ·exact .inr (.inl ⟨decide_eq_false (by omega), h1⟩)
def nameB (v : AV) : Bool := match v with
 | .str x => fitB x
 | _ => false
theorem is_name_ok {v : AV} (g : gdB v = true) (h : AH) : c_is_name [v] h = .ok (.bl (nameB v)) h := by
 obtain ⟨n, hk⟩ := gd_kd g
 have hi := isi_str hk h
 cases v with
 | str x =>
  have e : txB x = true := g
  have hs := strS_of e
  obtain ⟨p', el⟩ := isnm_loop (.str x) h x.cps.toList none
  have ef : nameB (.str x) = (lenB x && x.cps.toList.all okC) := rfl
  rcases lenB_cases x with ⟨q1, h1, h2⟩ | ⟨q1, h1⟩ | ⟨q1, h1, h2⟩
  ·cases q : x.cps.toList.all okC with
   | true =>
    rw [q, if_pos rfl] at el
    simp [c_is_name, m_is_name, b_is_name, sSeq, sFor, mChain, chT, List.lookup, hi, isS, hs, h1, h2, q1, ef, el, q]
   | false =>
    rw [q, if_neg (by decide)] at el
    simp [c_is_name, m_is_name, b_is_name, sSeq, sFor, mChain, chT, List.lookup, hi, isS, hs, h1, h2, q1, ef, el, q]
  ·simp [c_is_name, m_is_name, b_is_name, sSeq, mChain, chT, List.lookup, hi, isS, hs, h1, q1, ef]
  ·simp [c_is_name, m_is_name, b_is_name, sSeq, mChain, chT, List.lookup, hi, isS, hs, h1, h2, q1, ef]
 | _ => first | (simp [knd] at hk; done) | simp [c_is_name, m_is_name, b_is_name, sSeq, List.lookup, hi, isS, nameB]
theorem fit_len {x : Str} (e : fitB x = true) : 1 ≤ x.length ∧ x.length ≤ 8 := by
 unfold fitB at e
 rw [Bool.and_eq_true] at e
 exact of_decide_eq_true e.1
theorem fit_all {x : Str} (e : fitB x = true) : ∀ k, k ∈ TL.tl x → okC k = true := by
 unfold fitB at e
 rw [Bool.and_eq_true] at e
 exact List.all_eq_true.mp e.2
theorem fit_of {x : Str} (h1 : 1 ≤ x.length) (h2 : x.length ≤ 8) (h : ∀ k, k ∈ TL.tl x → okC k = true) : fitB x = true := by
 unfold fitB
 rw [Bool.and_eq_true]
 exact ⟨decide_eq_true ⟨h1, h2⟩, List.all_eq_true.mpr h⟩
theorem fit_tx {x : Str} (e : fitB x = true) : txB x = true := txB_mk (ok_mem fun k hk => by
 have := okC_rng (fit_all e k hk)
 omega) (by have := fit_len e; omega)
theorem fit_free {x : Str} (e : fitB x = true) {k : Nat} (hk : k < 97 ∨ 122 < k) : k ∉ TL.tl x := fun h => by
 have := okC_rng (fit_all e k h)
 omega
theorem sl_sep : Sep1 ("/" : Str) 47 := ⟨by decide, by decide +kernel⟩
theorem sl_tx : txB ("/" : Str) = true := by decide +kernel
theorem sl_len : ("/" : Str).length = 1 := by decide
def keyB (x : Str) : Bool := decide ((Txt.partition x "/").2.1 = "/") && (fitB (Txt.partition x "/").1 && fitB (Txt.partition x "/").2.2)
def isKeyB (v : AV) : Bool := match v with
 | .str x => keyB x
 | _ => false
theorem is_key_ok {v : AV} (g : gdB v = true) (h : AH) : c_is_key [v] h = .ok (.bl (isKeyB v)) h := by
 obtain ⟨n, hk⟩ := gd_kd g
 have hi := isi_str hk h
 cases v with
 | str x =>
  have e : txB x = true := g
  have hp := kPart_ok sl_sep sl_tx e h
  obtain ⟨h1, h2, h3⟩ := txB_part sl_sep sl_tx e
  have n1 := is_name_ok (v := .str (Txt.partition x "/").1) h1 h
  have n3 := is_name_ok (v := .str (Txt.partition x "/").2.2) h3 h
  have ek : isKeyB (.str x) = (decide ((Txt.partition x "/").2.1 = "/") && (fitB (Txt.partition x "/").1 && fitB (Txt.partition x "/").2.2)) := rfl
  rw [ek]
  generalize Txt.partition x "/" = P at *
  obtain ⟨a, b, c⟩ := P
  have f1 : nameB (.str a) = fitB a := rfl
  have f3 : nameB (.str c) = fitB c := rfl
  simp only at *
  rw [f1] at n1
  rw [f3] at n3
  by_cases q1 : b = ("/" : Str)
  ·cases q2 : fitB a
   ·rw [q2] at n1; simp [c_is_key, m_is_key, b_is_key, hi, isS, hp, q1, n1]
   ·rw [q2] at n1; simp [c_is_key, m_is_key, b_is_key, hi, isS, hp, q1, n1, n3]
  ·simp [c_is_key, m_is_key, b_is_key, hi, isS, hp, q1]
 | _ => first | (simp [knd] at hk; done) | simp [c_is_key, m_is_key, b_is_key, hi, isS, isKeyB]
def kyS (o m : Str) : Str := o ++ "/" ++ m
theorem ky_part {o m : Str} (ho : fitB o = true) : Txt.partition (kyS o m) "/" = (o, ("/" : Str), m) := TL.partition_app (s := 47) (S := []) sl_sep.tl (fit_free ho (.inl (by omega)))
theorem ky_key {o m : Str} (ho : fitB o = true) (hm : fitB m = true) : keyB (kyS o m) = true := by
 unfold keyB
 rw [ky_part ho]
 simp [ho, hm]
theorem ky_tx {o m : Str} (ho : fitB o = true) (hm : fitB m = true) : txB (kyS o m) = true := by
 have := fit_len ho
 have := fit_len hm
 refine txB_app (txB_app (fit_tx ho) sl_tx (by rw [sl_len]; omega)) (fit_tx hm) ?_
 rw [len_app, sl_len]
 omega
theorem ky_inj {o m o' m' : Str} (ho : fitB o = true) (ho' : fitB o' = true) (e : kyS o m = kyS o' m') : o = o' ∧ m = m' := by
 have a := ky_part (m := m) ho
 rw [e, ky_part ho'] at a
 injection a with a1 a2
 injection a2 with _ a3
 exact ⟨a1.symm, a3.symm⟩
theorem key_ex {x : Str} (e : keyB x = true) : ∃ o m, fitB o = true ∧ fitB m = true ∧ x = kyS o m := by
 unfold keyB at e
 simp only [Bool.and_eq_true, decide_eq_true_eq] at e
 by_cases q : 47 ∈ TL.tl x
 ·obtain ⟨a, b, ex, ha, ep, _⟩ := cut_at sl_sep q
  rw [ep] at e
  exact ⟨a, b, e.2.1, e.2.2, ex⟩
 ·rw [(cut_no sl_sep q).1] at e
  exact absurd e.1 (show ¬ Str.empty = ("/" : Str) from by decide)
theorem key_tx {x : Str} (e : keyB x = true) : txB x = true := by
 obtain ⟨o, m, ho, hm, rfl⟩ := key_ex e
 exact ky_tx ho hm
def ownS (x : Str) : Str := (Txt.partition x "/").1
theorem own_fit {x : Str} (e : keyB x = true) : fitB (ownS x) = true := by
 unfold keyB at e
 simp only [Bool.and_eq_true] at e
 exact e.2.1
theorem part_ix {x : Str} (e : txB x = true) (h : AH) : (kPart x (.str "/") h).bind (fun p => kIx p.1 (.int 0) p.2) = some (.str (ownS x), h) := by
 rw [kPart_ok sl_sep sl_tx e h]
 rfl
def GR : Int := 999999999999999999999999999999
def intB (v : AV) : Bool := match v with
 | .int i => decide (-GR ≤ i ∧ i ≤ GR)
 | _ => false
theorem is_integer_ok {v : AV} (k : Kd v) (h : AH) : c_is_integer [v] h = .ok (.bl (intB v)) h := by
 obtain ⟨n, e⟩ := k
 have h1 := isi_int e h
 have h2 := isi_bool e h
 cases v with
 | int i =>
  by_cases q1 : (-999999999999999999999999999999 : Int) ≤ i
  ·by_cases q2 : i ≤ (999999999999999999999999999999 : Int)
   ·simp [c_is_integer, m_is_integer, b_is_integer, mChain, chT, h1, h2, isI, isBl, intB, GR, q1, q2]
   ·simp [c_is_integer, m_is_integer, b_is_integer, mChain, chT, h1, h2, isI, isBl, intB, GR, q1, q2]
  ·simp [c_is_integer, m_is_integer, b_is_integer, mChain, chT, h1, h2, isI, isBl, intB, GR, q1]
 | bl b => simp [c_is_integer, m_is_integer, b_is_integer, h1, h2, isI, isBl, intB]
 | _ => first | (simp [knd] at e; done) | simp [c_is_integer, m_is_integer, b_is_integer, h1, h2, isI, isBl, intB]
theorem owner_of_ok {x : Str} (e : keyB x = true) (h : AH) : c_owner_of [.str x] h = .ok (.str (ownS x)) h := by
 have t := key_tx e
 have k1 := is_key_ok (v := .str x) t h
 have ke : isKeyB (.str x) = true := e
 rw [ke] at k1
 have hp := kPart_ok sl_sep sl_tx t h
 simp [c_owner_of, m_owner_of, b_owner_of, k1, hp, ownS]
theorem bag_lt {h : AH} {n : Nat} (b : BagAt h n) : n < h.length := by
 obtain ⟨_, _, e, _⟩ := b
 exact (List.getElem?_eq_some_iff.mp e).1
theorem bag_fr {h h' : AH} {n : Nat} (b : BagAt h n) (e : h'[n]? = h[n]?) : BagAt h' n := by
 obtain ⟨c, m, q, z⟩ := b
 exact ⟨c, m, e.trans q, z⟩
theorem Drew.fr {n : Nat} {h h' : AH} (d : Drew n h h') : Fr n h h' := ⟨by rw [d.2.1]; exact Nat.le_refl _, fun j _ hj => d.2.2 j hj⟩
def sgs : List Str := ["a", "z", "q", "m"]
def stC (k : Nat) : Bool := decide (k = 97 ∨ k = 122 ∨ k = 113 ∨ k = 109)
theorem stC_ok {k : Nat} (h : stC k = true) : okC k = true := by
 unfold stC at h
 have h := of_decide_eq_true h
 exact okC_of (by omega) (by omega)
theorem stem_loop {n : Nat} : ∀ (vs : List AV) (x : Str) (p : Option AV) (h : AH), BagAt h n → (∀ k, k ∈ TL.tl x → stC k = true) → x.length + vs.length ≤ 7 → ∀ (y1 y2 y4 y5 y7 : Option AV), ∃ y p' h', forL (gN 3) l0_names vs [some (.ref n), y1, y2, p, y4, y5, some (.str x), y7] h = .nx [some (.ref n), y1, y2, p', y4, y5, some (.str y), y7] h' ∧ Drew n h h' ∧ (∀ k, k ∈ TL.tl y → stC k = true) ∧ y.length ≤ x.length + vs.length
 | [], x, p, h, B, hx, hl, y1, y2, y4, y5, y7 => ⟨x, p, h, rfl, ⟨B, rfl, fun _ _ => rfl⟩, hx, by simp⟩
 | v :: r, x, p, h, B, hx, hl, y1, y2, y4, y5, y7 => by
  obtain ⟨w, h1, e1, m1, D1⟩ := of_ok (xs := sgs.map .str) B (by decide) (by decide)
  obtain ⟨z, hz, rfl⟩ := List.mem_map.mp m1
  have zz : z.length = 1 ∧ ∀ k, k ∈ TL.tl z → stC k = true := by
   have g : sgs.all (fun z => decide (z.length = 1) && (TL.tl z).all stC) = true := by decide +kernel
   have := List.all_eq_true.mp g z hz
   rw [Bool.and_eq_true] at this
   exact ⟨of_decide_eq_true this.1, List.all_eq_true.mp this.2⟩
  have l1 : (x ++ z).length = x.length + 1 := by rw [len_app, zz.1]
  have l2 : x.length + 1 ≤ 16777216 := by simp at hl; omega
  have el : (sgs.map AV.str) = [.str "a", .str "z", .str "q", .str "m"] := rfl
  rw [el] at e1
  obtain ⟨y, p', h', e2, D2, a, b⟩ := stem_loop r (x ++ z) (some v) h1 D1.1 (fun k hk => by
   rw [TL.tl_append] at hk
   rcases List.mem_append.mp hk with hk | hk
   ·exact hx k hk
   ·exact zz.2 k hk) (by rw [l1]; simp at hl; omega) y1 y2 y4 y5 y7
  refine ⟨y, p', h', ?_, D1.trans D2, a, by rw [l1] at b; simp; omega⟩
  rw [forL_cons (τ1 := [some (.ref n), y1, y2, some v, y4, y5, some (.str x), y7]) (τ2 := [some (.ref n), y1, y2, some v, y4, y5, some (.str (x ++ z)), y7]) (h2 := h1) (by simp) (by simp [l0_names, e1, zz.1, l2]), e2]
def Sg (ls : List Str) : Prop := (∀ z, z ∈ ls → z.length = 1 ∧ ∀ k, k ∈ TL.tl z → okC k = true) ∧ ls.Nodup
theorem abc_sg : Sg (ABC.cps.toList.map fun k => (⟨#[k]⟩ : Str)) := by
 have g : (ABC.cps.toList.map fun k => (⟨#[k]⟩ : Str)).all (fun z => decide (z.length = 1) && (TL.tl z).all okC) = true := by decide +kernel
 refine ⟨fun z hz => ?_, by decide +kernel⟩
 have := List.all_eq_true.mp g z hz
 rw [Bool.and_eq_true] at this
 exact ⟨of_decide_eq_true this.1, List.all_eq_true.mp this.2⟩
def nmS (ahead : Bool) (s z : Str) : Str := if ahead then z ++ s else s ++ z
theorem nm_inj {ah : Bool} {s z z' : Str} (e : nmS ah s z = nmS ah s z') : z = z' := by
 unfold nmS at e
 apply TL.ext_tl
 have e := congrArg TL.tl e
 cases ah
 ·simp only [Bool.false_eq_true, if_false, TL.tl_append] at e
  exact List.append_cancel_left e
 ·simp only [if_true, TL.tl_append] at e
  exact List.append_cancel_right e
theorem nm_fit {ah : Bool} {s z : Str} (hs : ∀ k, k ∈ TL.tl s → okC k = true) (hl : s.length ≤ 7) (h1 : z.length = 1) (hz : ∀ k, k ∈ TL.tl z → okC k = true) : fitB (nmS ah s z) = true := by
 unfold nmS
 cases ah
 ·simp only [Bool.false_eq_true, if_false]
  exact fit_of (by rw [len_app]; omega) (by rw [len_app]; omega) fun k hk => by rw [TL.tl_append] at hk; rcases List.mem_append.mp hk with hk | hk; (exact hs k hk); exact hz k hk
 ·simp only [if_true]
  exact fit_of (by rw [len_app]; omega) (by rw [len_app]; omega) fun k hk => by rw [TL.tl_append] at hk; rcases List.mem_append.mp hk with hk | hk; (exact hz k hk); exact hs k hk
theorem erase_str (ls : List Str) (j : Nat) : (ls.map AV.str).eraseIdx j = (ls.eraseIdx j).map .str := by
  induction ls generalizing j with
  | nil => rfl
  | cons a r ih => cases j with
    | zero => rfl
    | succ j => simp [ih]
theorem found_loop {n a b : Nat} (hab : a ≠ b) (han : a ≠ n) (hbn : b ≠ n) {s : Str} {ah : Bool} (hs : ∀ k, k ∈ TL.tl s → okC k = true) (hsl : s.length ≤ 7) : ∀ (vs : List AV) (ls ws : List Str) (p y7 : Option AV) (h : AH), BagAt h n → h[a]? = some (some (.lst (ls.map .str))) → h[b]? = some (some (.lst (ws.map .str))) → Sg ls → vs.length ≤ ls.length → ls.length ≤ 26 → ws.length + vs.length ≤ 1000 → ∀ (y1 : Option AV),
  ∃ (zs : List Str) (p' q7 : Option AV) (h' : AH), forL (gN 3) l1_names vs [some (.ref n), y1, some (.bl ah), p, some (.ref a), some (.ref b), some (.str s), y7] h = .nx [some (.ref n), y1, some (.bl ah), p', some (.ref a), some (.ref b), some (.str s), q7] h' ∧ BagAt h' n ∧ h'[b]? = some (some (.lst ((ws ++ zs.map (nmS ah s)).map .str))) ∧ h'.length = h.length ∧ (∀ j, j ≠ n → j ≠ a → j ≠ b → h'[j]? = h[j]?) ∧ zs.length = vs.length ∧ zs.Nodup ∧ (∀ z, z ∈ zs → z ∈ ls)
 | [], ls, ws, p, y7, h, B, ha, hb, S, hl, h26, hw, y1 => ⟨[], p, y7, h, rfl, B, by simpa using hb, rfl, fun _ _ _ _ => rfl, rfl, List.nodup_nil, fun z hz => by simp at hz⟩
 | v :: r, ls, ws, p, y7, h, B, ha, hb, S, hl, h26, hw, y1 => by
  obtain ⟨d, h1, e1, d0, d1, D1⟩ := take_ok (k := (ls.length : Int)) B (by simp at hl; omega) (by omega)
  obtain ⟨j, rfl⟩ : ∃ j : Nat, d = (j : Int) := ⟨d.toNat, by omega⟩
  have hj : j < ls.length := by omega
  have ha1 : h1[a]? = some (some (.lst (ls.map .str))) := (D1.2.2 a han).trans ha
  have hb1 : h1[b]? = some (some (.lst (ws.map .str))) := (D1.2.2 b hbn).trans hb
  have alt := (List.getElem?_eq_some_iff.mp ha1).1
  have blt := (List.getElem?_eq_some_iff.mp hb1).1
  have zm : ls[j] ∈ ls := List.getElem_mem hj
  obtain ⟨z1, zk⟩ := S.1 _ zm
  obtain ⟨h2, hh2⟩ : ∃ h2, h2 = h1.set a (some (.lst ((ls.eraseIdx j).map .str))) := ⟨_, rfl⟩
  obtain ⟨h3, hh3⟩ : ∃ h3, h3 = h2.set b (some (.lst ((ws ++ [nmS ah s ls[j]]).map .str))) := ⟨_, rfl⟩
  have ha2 : h2[a]? = some (some (.lst ((ls.eraseIdx j).map .str))) := by rw [hh2, List.getElem?_set_self alt]
  have hb2 : h2[b]? = some (some (.lst (ws.map .str))) := by rw [hh2, gsn hab]; exact hb1
  have ha3 : h3[a]? = some (some (.lst ((ls.eraseIdx j).map .str))) := by rw [hh3, gsn (Ne.symm hab)]; exact ha2
  have hb3 : h3[b]? = some (some (.lst ((ws ++ [nmS ah s ls[j]]).map .str))) := by rw [hh3, List.getElem?_set_self (by rw [hh2, List.length_set]; exact blt)]
  have hn3 : ∀ i, i ≠ a → i ≠ b → h3[i]? = h1[i]? := fun i h1 h2 => by rw [hh3, gsn (Ne.symm h2), hh2, gsn (Ne.symm h1)]
  have B3 : BagAt h3 n := bag_fr D1.1 (hn3 n (Ne.symm han) (Ne.symm hbn))
  have l3 : h3.length = h.length := by rw [hh3, hh2]; simp [D1.2.1]
  have S2 : Sg (ls.eraseIdx j) := ⟨fun z hz => S.1 z (List.mem_of_mem_eraseIdx hz), S.2.eraseIdx j⟩
  obtain ⟨zs, p', q7, h', e2, B', hb', l', k', lz, nz, mz⟩ := found_loop (ah := ah) hab han hbn hs hsl r (ls.eraseIdx j) (ws ++ [nmS ah s ls[j]]) (some v) (some (.str ls[j])) h3 B3 ha3 hb3 S2 (by rw [List.length_eraseIdx_of_lt hj]; simp at hl; omega) (by rw [List.length_eraseIdx_of_lt hj]; omega) (by simp at hw ⊢; omega) y1
  refine ⟨ls[j] :: zs, p', q7, h', ?_, B', by rw [hb']; simp, l'.trans l3, fun i i1 i2 i3 => (k' i i1 i2 i3).trans ((hn3 i i2 i3).trans (D1.2.2 i i1)), by simp [lz], ?_, fun z hz => ?_⟩
  ·have kl : kLen [.ref a] h = some (.int (ls.length : Nat), h) := by rw [kLen_ref, ha]; simp
   have kp : kPopR a [.int (j : Nat)] h1 = some (.str ls[j], h2) := by
    unfold kPopR
    simp only [ha1]
    rw [if_pos (by simp; omega), ixN_ev, if_pos (by omega), if_pos (by simp; omega)]
    simp only [Option.bind_some, Int.toNat_natCast, List.getElem?_map, List.getElem?_eq_getElem hj, Option.map_some, erase_str, hh2]
   have ap : ∀ y : Str, nmS ah s ls[j] = y → kAppR b [.str y] h2 = some (.non, h3) := fun y hy => by
    unfold kAppR
    simp only [hb2]
    rw [if_pos (by simp at hw ⊢; omega), hh3, hy]
    simp
   have s1 : sSet 7 (mBMl kPopR (mVar 4) (mCons (mCall c_take (mCons (mVar 0) (mCons (mL kLen (mCons (mVar 4) mNil)) mNil))) mNil)) [some (.ref n), y1, some (.bl ah), some v, some (.ref a), some (.ref b), some (.str s), y7] h = .nx [some (.ref n), y1, some (.bl ah), some v, some (.ref a), some (.ref b), some (.str s), some (.str ls[j])] h2 := by
    simp [-kLen_ref, ha, kl, e1, kp]
   have l1 : ls[j].length + s.length ≤ 16777216 := by omega
   have l2 : s.length + ls[j].length ≤ 16777216 := by omega
   have st : l1_names [some (.ref n), y1, some (.bl ah), some v, some (.ref a), some (.ref b), some (.str s), y7] h = .nx [some (.ref n), y1, some (.bl ah), some v, some (.ref a), some (.ref b), some (.str s), some (.str ls[j])] h3 := by
    unfold l1_names
    rw [sSeq_ev, s1, thn_nx]
    generalize ls[j] = zz at *
    cases ah with
    | true => have a1 := ap (zz ++ s) rfl; simp [hb2, l1, a1]
    | false => have a1 := ap (s ++ zz) rfl; simp [hb2, l2, a1]
   rw [forL_cons (τ1 := [some (.ref n), y1, some (.bl ah), some v, some (.ref a), some (.ref b), some (.str s), y7]) (by simp) st, e2]
  ·refine List.nodup_cons.mpr ⟨fun c => ?_, nz⟩
   have c := mz _ c
   rw [List.mem_eraseIdx_iff_getElem] at c
   obtain ⟨i, hi, ne, e⟩ := c
   rcases Nat.lt_or_gt_of_ne ne with q | q
   ·exact List.pairwise_iff_getElem.mp S.2 i j hi hj q e
   ·exact List.pairwise_iff_getElem.mp S.2 j i hj hi q e.symm
  ·rcases List.mem_cons.mp hz with rfl | hz
   ·exact zm
   ·exact List.mem_of_mem_eraseIdx (mz z hz)
theorem abc_lst (h : AH) (τ : AS) : mL kListR (mCons (mC (.str "abcdefghijklmnopqrstuvwxyz")) mNil) τ h = .ok (.ref h.length) (h ++ [some (.lst ((ABC.cps.toList.map fun k => (⟨#[k]⟩ : Str)).map .str))]) := by
 have ea : ("abcdefghijklmnopqrstuvwxyz" : Str) = ABC := rfl
 have e26 : (ABC.cps.toList.map fun k => AV.str ⟨#[k]⟩).length = 26 := by rw [List.length_map]; decide +kernel
 have el : (ABC.cps.toList.map fun k => (⟨#[k]⟩ : Str)).map AV.str = ABC.cps.toList.map fun k => AV.str ⟨#[k]⟩ := by rw [List.map_map]; rfl
 rw [el]
 simp only [mL_ev, mCons_ev, mC_ev, bind_ok, fCons_ev, mNil_ev, fCons2_ev, fL_ev, ea, kListR_str, e26]
 rw [if_pos (by decide)]
 rfl
theorem names_c1 (ls : List Str) (hls : ls = ABC.cps.toList.map fun k => (⟨#[k]⟩ : Str)) (v w : AV) (h : AH) : sPar3 4 5 6 (mCons (mL kListR (mCons (mC (.str "abcdefghijklmnopqrstuvwxyz")) mNil)) (mCons (mL kLst mNil) (mCons (mC (.str "")) mNil))) [some v, some w, none, none, none, none, none, none] h = .nx [some v, some w, none, none, some (.ref h.length), some (.ref (h.length + 1)), some (.str Str.empty), none] (h ++ [some (.lst (ls.map .str))] ++ [some (.lst [])]) := by
 have kl := abc_lst h [some v, some w, none, none, none, none, none, none]
 rw [← hls] at kl
 have ee : ("" : Str) = Str.empty := rfl
 rw [sPar3_ev, mCons_ev, kl]
 simp [ee]
theorem nm_self {ah : Bool} {s z : Str} (hs : ∀ k, k ∈ TL.tl s → stC k = true) (h1 : z.length = 1) : nmS ah s z ≠ "self" := fun e => by
 have e := congrArg TL.tl e
 have es : TL.tl ("self" : Str) = [115, 101, 108, 102] := by decide +kernel
 rw [TL.len_tl] at h1
 unfold nmS at e
 cases ah with
 | true =>
  rw [if_pos rfl, TL.tl_append, es] at e
  match hz : TL.tl z with
  | [] => rw [hz] at h1; simp at h1
  | c :: d :: r => rw [hz] at h1; simp at h1
  | [c] =>
   rw [hz] at e
   simp at e
   have := hs 101 (by rw [e.2]; simp)
   simp [stC] at this
 | false =>
  rw [if_neg (by simp), TL.tl_append, es] at e
  match q : TL.tl s with
  | [] => rw [q, List.nil_append] at e; rw [e] at h1; simp at h1
  | c :: r =>
   rw [q] at e
   simp at e
   have := hs 115 (by rw [q, e.1]; simp)
   simp [stC] at this
theorem names_okS {n : Nat} {h : AH} (B : BagAt h n) {k : Nat} (hk : k ≤ 20) : ∃ (ws : List Str) (h' : AH), c_names [.ref n, .int (k : Nat)] h = .ok (.fl (ws.map .str)) h' ∧ ws.length = k ∧ (∀ w, w ∈ ws → fitB w = true ∧ w ≠ "self") ∧ ws.Nodup ∧ BagAt h' n ∧ Fr n h h' := by
 have nl := bag_lt B
 obtain ⟨ls, hls⟩ : ∃ ls, ls = ABC.cps.toList.map fun k => (⟨#[k]⟩ : Str) := ⟨_, rfl⟩
 have Sg0 : Sg ls := by rw [hls]; exact abc_sg
 have l26 : ls.length = 26 := by rw [hls]; decide +kernel
 obtain ⟨h0, hh0⟩ : ∃ h0, h0 = h ++ [some (.lst (ls.map .str))] ++ [some (.lst [])] := ⟨_, rfl⟩
 have l0 : h0.length = h.length + 2 := by rw [hh0]; simp
 have ha0 : h0[h.length]? = some (some (.lst (ls.map .str))) := by rw [hh0]; simp
 have hb0 : h0[h.length + 1]? = some (some (.lst (([] : List Str).map .str))) := by rw [hh0, List.getElem?_append_right (by simp)]; simp
 have k0 : ∀ j, j < h.length → h0[j]? = h[j]? := fun j hj => by rw [hh0, List.getElem?_append_left (by simp; omega), List.getElem?_append_left hj]
 have B0 : BagAt h0 n := bag_fr B (k0 n nl)
 obtain ⟨d, h1, e1, _, _, D1⟩ := take_ok (k := 2) B0 (by omega) (by omega)
 obtain ⟨m, h2, e2, m0, m1, D2⟩ := take_ok (k := 8) D1.1 (by omega) (by omega)
 obtain ⟨mm, rfl⟩ : ∃ j : Nat, m = (j : Int) := ⟨m.toNat, by omega⟩
 obtain ⟨ah, hah⟩ : ∃ ah, ah = decide (d = 0) := ⟨_, rfl⟩
 have lr : (rngA 0 (mm : Int)).length = mm := by unfold rngA; simp
 obtain ⟨s, p', h3, e3, D3, hs, sl⟩ := stem_loop (rngA 0 (mm : Int)) Str.empty none h2 D2.1 (fun k hk => by simp [Str.empty] at hk) (by rw [lr]; have : Str.empty.length = 0 := rfl; omega) (some (.int (k : Nat))) (some (.bl ah)) (some (.ref h.length)) (some (.ref (h.length + 1))) none
 rw [lr] at sl
 have sl7 : s.length ≤ 7 := by have : Str.empty.length = 0 := rfl; omega
 have ha3 : h3[h.length]? = some (some (.lst (ls.map .str))) := ((D3.2.2 _ (by omega)).trans ((D2.2.2 _ (by omega)).trans (D1.2.2 _ (by omega)))).trans ha0
 have hb3 : h3[h.length + 1]? = some (some (.lst (([] : List Str).map .str))) := ((D3.2.2 _ (by omega)).trans ((D2.2.2 _ (by omega)).trans (D1.2.2 _ (by omega)))).trans hb0
 have lrk : (rngA 0 (k : Int)).length = k := by unfold rngA; simp
 obtain ⟨zs, p2, q7, h4, e4, B4, hb4, l4, k4, lz, nz, mz⟩ := found_loop (a := h.length) (b := h.length + 1) (by omega) (by omega) (by omega) (ah := ah) (fun k hk => stC_ok (hs k hk)) sl7 (rngA 0 (k : Int)) ls [] p' none h3 D3.1 ha3 hb3 Sg0 (by rw [lrk]; omega) (by omega) (by rw [lrk]; simp; omega) (some (.int (k : Nat)))
 rw [lrk] at lz
 rw [List.nil_append] at hb4
 have l3 : h3.length = h.length + 2 := by rw [D3.2.1, D2.2.1, D1.2.1, l0]
 refine ⟨zs.map (nmS ah s), h4.set (h.length + 1) none, ?_, by simp [lz], fun w hw => ?_, ?_, ?_, ?_⟩
 ·have kd : kEq (.int d) (.int 0) h1 = some (.bl ah, h1) := by rw [kEq_int, hah]
  have hr1 : rOk (mm : Int) = true := by unfold rOk; apply decide_eq_true; omega
  have hr2 : rOk (k : Int) = true := by unfold rOk; apply decide_eq_true; omega
  have hb5 : h4[h.length + 1]? = some (some (.lst ((zs.map (nmS ah s)).map .str))) := hb4
  have c1 := names_c1 ls hls (.ref n) (.int (k : Nat)) h
  rw [← hh0] at c1
  generalize hL : (zs.map (nmS ah s)).map AV.str = L at *
  simp only [c_names, chk, m_names, runF, b_names]
  simp only [List.append_nil, List.length_cons, List.length_nil, List.map_cons, List.map_nil, List.replicate, Nat.reduceAdd, Nat.reduceSub, if_true, List.cons_append, List.nil_append]
  have c2 : sSet 2 (mBin kEq (mCall c_take (mCons (mVar 0) (mCons (mC (.int 2)) mNil))) (mC (.int 0))) [some (.ref n), some (.int (k : Nat)), none, none, some (.ref h.length), some (.ref (h.length + 1)), some (.str Str.empty), none] h0 = .nx [some (.ref n), some (.int (k : Nat)), some (.bl ah), none, some (.ref h.length), some (.ref (h.length + 1)), some (.str Str.empty), none] h1 := by
   simp [e1, kd]
  have c3 : sFor (gN 3) (mRng1 (mCons (mCall c_take (mCons (mVar 0) (mCons (mC (.int 8)) mNil))) mNil)) l0_names [some (.ref n), some (.int (k : Nat)), some (.bl ah), none, some (.ref h.length), some (.ref (h.length + 1)), some (.str Str.empty), none] h1 = .nx [some (.ref n), some (.int (k : Nat)), some (.bl ah), p', some (.ref h.length), some (.ref (h.length + 1)), some (.str s), none] h3 := by
   have ea : (mCons (mCall c_take (mCons (mVar 0) (mCons (mC (.int 8)) mNil))) mNil) [some (.ref n), some (.int (k : Nat)), some (.bl ah), none, some (.ref h.length), some (.ref (h.length + 1)), some (.str Str.empty), none] h1 = .ok [.int (mm : Nat)] h2 := by simp [e2]
   rw [sFor_ev, mRng1_ev, ea, bind_ok, fRng1_ev, if_pos hr1, bindS_ok, fFor_ev, e3]
  have c4 : sFor (gN 3) (mRng1 (mCons (mVar 1) mNil)) l1_names [some (.ref n), some (.int (k : Nat)), some (.bl ah), p', some (.ref h.length), some (.ref (h.length + 1)), some (.str s), none] h3 = .nx [some (.ref n), some (.int (k : Nat)), some (.bl ah), p2, some (.ref h.length), some (.ref (h.length + 1)), some (.str s), q7] h4 := by
   have ea : (mCons (mVar 1) mNil) [some (.ref n), some (.int (k : Nat)), some (.bl ah), p', some (.ref h.length), some (.ref (h.length + 1)), some (.str s), none] h3 = .ok [.int (k : Nat)] h3 := rfl
   rw [sFor_ev, mRng1_ev, ea, bind_ok, fRng1_ev, if_pos hr2, bindS_ok, fFor_ev, e4]
  rw [sSeq_ev, c1, thn_nx, sSeq_ev, c2, thn_nx, sSeq_ev, c3, thn_nx, sSeq_ev, c4, thn_nx]
  have c5 : mKill (mVar 5) [some (.ref n), some (.int (k : Nat)), some (.bl ah), p2, some (.ref h.length), some (.ref (h.length + 1)), some (.str s), q7] h4 = .ok (.fl L) (h4.set (h.length + 1) none) := by
   rw [mKill_ev, show mVar 5 [some (.ref n), some (.int (k : Nat)), some (.bl ah), p2, some (.ref h.length), some (.ref (h.length + 1)), some (.str s), q7] h4 = .ok (.ref (h.length + 1)) h4 from rfl, bind_ok, killA_ref, hb5]
  rw [sRet_ev, c5]
  rfl
 ·obtain ⟨z, hz, rfl⟩ := List.mem_map.mp hw
  obtain ⟨z1, zk⟩ := Sg0.1 z (mz z hz)
  exact ⟨nm_fit (fun k hk => stC_ok (hs k hk)) sl7 z1 zk, nm_self hs z1⟩
 ·exact List.pairwise_map.mpr (nz.imp fun {a b} c e => c (nm_inj e))
 ·exact bag_fr B4 (by rw [gsn (by omega)])
 ·refine ⟨by simp; omega, fun j hj hn => ?_⟩
  rw [gsn (by omega), k4 j hn (by omega) (by omega), D3.2.2 j hn, D2.2.2 j hn, D1.2.2 j hn, k0 j hj]
theorem names_ok {n : Nat} {h : AH} (B : BagAt h n) {k : Nat} (hk : k ≤ 20) : ∃ (ws : List Str) (h' : AH), c_names [.ref n, .int (k : Nat)] h = .ok (.fl (ws.map .str)) h' ∧ ws.length = k ∧ (∀ w, w ∈ ws → fitB w = true) ∧ ws.Nodup ∧ BagAt h' n ∧ Fr n h h' := by
 obtain ⟨ws, h', a, b, c, d⟩ := names_okS B hk
 exact ⟨ws, h', a, b, fun w hw => (c w hw).1, d⟩
theorem keys_ok {n : Nat} {h : AH} (B : BagAt h n) {k : Nat} (hk : k ≤ 20) : ∃ (ks : List Str) (h' : AH), c_keys [.ref n, .int (k : Nat)] h = .ok (.fl (ks.map .str)) h' ∧ ks.length = k ∧ (∀ x, x ∈ ks → keyB x = true) ∧ ks.Nodup ∧ BagAt h' n ∧ Fr n h h' := by
 obtain ⟨d, h1, e1, d0, d1, D1⟩ := take_ok (k := 2) B (by omega) (by omega)
 obtain ⟨j, rfl⟩ : ∃ j : Nat, d = (j : Int) := ⟨d.toNat, by omega⟩
 obtain ⟨os, h2, e2, lo, fo, _, B2, F2⟩ := names_ok D1.1 (k := 1 + j) (by omega)
 obtain ⟨ms, h3, e3, lm, fm, nm, B3, F3⟩ := names_ok B2 hk
 have R0 : ∀ v, v ∈ ms.map AV.str → ∀ h, (BagAt h n ∧ Fr n h3 h) → ∃ τ2 y h2, gE 3 v [some (.ref n), some (.int (k : Nat)), some (.fl (os.map .str)), none] = some τ2 ∧ mBin kAdd (mBin kAdd (mCall c_of (mCons (mVar 0) (mCons (mVar 2) mNil))) (mC (.str "/"))) (mVar 3) τ2 h = .ok y h2 ∧ (∃ o m, fitB o = true ∧ fitB m = true ∧ v = .str m ∧ y = .str (kyS o m)) ∧ BagAt h2 n ∧ Fr n h3 h2 := fun v hv h ⟨B, F⟩ => by
  obtain ⟨m, hm, rfl⟩ := List.mem_map.mp hv
  obtain ⟨w, h5, e5, hw, D5⟩ := of_ok (xs := os.map .str) B (by rw [List.length_map]; omega) (by rw [List.length_map]; omega)
  obtain ⟨o, ho, rfl⟩ := List.mem_map.mp hw
  have f1 := fo o ho
  have f2 := fm m hm
  have l1 := fit_len f1
  have l2 := fit_len f2
  have d1 : o.length + 1 ≤ 16777216 := by omega
  have d2 : (o ++ "/" : Str).length = o.length + 1 := by rw [len_app, sl_len]
  have d3 : o.length + 1 + m.length ≤ 16777216 := by omega
  generalize hL : os.map AV.str = L at *
  refine ⟨[some (.ref n), some (.int (k : Nat)), some (.fl L), some (.str m)], .str (kyS o m), h5, by simp, ?_, ⟨o, m, f1, f2, rfl, rfl⟩, D5.1, F.trans D5.fr⟩
  simp [e5, sl_len, d1, d2, d3, kyS]
 obtain ⟨ys, h4, e4, al, B4, F4⟩ := lcL_eff (fun v y => ∃ o m, fitB o = true ∧ fitB m = true ∧ v = .str m ∧ y = .str (kyS o m)) (fun h => BagAt h n ∧ Fr n h3 h) (ms.map .str) R0 [] h3 ⟨B3, .refl⟩ (by simp; omega)
 obtain ⟨ks, rfl, al2⟩ := al2_strs (P := fun m x => ∃ o, fitB o = true ∧ fitB m = true ∧ x = kyS o m) (fun m y ⟨o, m', a, b, c, d⟩ => by cases c; exact ⟨_, d, o, a, b, rfl⟩) al
 refine ⟨ks, h4, ?_, by rw [← al2.len, lm], fun x hx => ?_, al2.nodup (fun a a' b ⟨o, f, _, e⟩ ⟨o', f', _, e'⟩ => (ky_inj f f' (e.symm.trans e')).2) nm, B4, ((D1.fr.trans F2).trans F3).trans F4⟩
 ·have c1 : mCall c_names (mCons (mVar 0) (mCons (mBin kAdd (mC (.int 1)) (mCall c_take (mCons (mVar 0) (mCons (mC (.int 2)) mNil)))) mNil)) [some (.ref n), some (.int (k : Nat)), none, none] h = .ok (.fl (os.map .str)) h2 := by
   have e2 : c_names [.ref n, .int (1 + (j : Int))] h1 = .ok (.fl (os.map .str)) h2 := by rw [show (1 + (j : Int)) = ((1 + j : Nat) : Int) from by omega]; exact e2
   generalize os.map AV.str = L at *
   simp [e1, e2]
  have c2 : mCall c_names (mCons (mVar 0) (mCons (mVar 1) mNil)) [some (.ref n), some (.int (k : Nat)), some (.fl (os.map .str)), none] h2 = .ok (.fl (ms.map .str)) h3 := by
   generalize ms.map AV.str = L at *
   simp [e3]
  rw [List.nil_append] at e4
  generalize ms.map AV.str = L2 at *
  generalize os.map AV.str = L at *
  generalize ks.map AV.str = L3 at *
  simp only [c_keys, chk, m_keys, runF, b_keys]
  simp only [List.append_nil, List.length_cons, List.length_nil, List.map_cons, List.map_nil, List.replicate, Nat.reduceAdd, Nat.reduceSub, if_true, List.cons_append, List.nil_append]
  rw [sSeq_ev, sSet_ev, c1]
  simp only [bindS_ok, fSet_ev]
  rw [if_pos (by simp), thn_nx, sRet_ev, mLc_ev]
  simp only [List.set_cons_succ, List.set_cons_zero]
  rw [show (mIt itL (mCall c_names (mCons (mVar 0) (mCons (mVar 1) mNil)))) [some (.ref n), some (.int (k : Nat)), some (.fl L), none] h2 = .ok L2 h3 from by rw [mIt_ev, c2]; rfl, bind_ok, fLc_ev]
  rw [show wipeA [some (AV.ref n), some (AV.int (k : Nat)), some (AV.fl L), none] [3] = [some (.ref n), some (.int (k : Nat)), some (.fl L), none] from rfl, e4]
  rfl
 ·obtain ⟨m, _, o, f1, f2, rfl⟩ := al2.ex x hx
  exact ky_key f1 f2
theorem integer_ok {n : Nat} {h : AH} (B : BagAt h n) : ∃ (i : Int) (h' : AH), c_integer [.ref n] h = .ok (.int i) h' ∧ -GR ≤ i ∧ i ≤ GR ∧ Drew n h h' := by
 obtain ⟨d, h1, e1, d0, d1, D1⟩ := take_ok (k := 7) B (by omega) (by omega)
 have p30 : (10 : Int) ^ 30 = 1000000000000000000000000000000 := by decide
 by_cases hd : d < 5
 ·obtain ⟨j, rfl⟩ : ∃ j : Nat, d = (j : Int) := ⟨d.toNat, by omega⟩
  have hj : j < 5 := by omega
  match j, hj with
  | 0, _ => exact ⟨0, h1, by simp [c_integer, m_integer, b_integer, e1], by decide, by decide, D1⟩
  | 1, _ => exact ⟨1, h1, by simp [c_integer, m_integer, b_integer, e1], by decide, by decide, D1⟩
  | 2, _ => exact ⟨-1, h1, by simp [c_integer, m_integer, b_integer, e1], by decide, by decide, D1⟩
  | 3, _ => exact ⟨GR, h1, by simp [c_integer, m_integer, b_integer, e1, GR], by decide, by decide, D1⟩
  | 4, _ => exact ⟨-GR, h1, by simp [c_integer, m_integer, b_integer, e1, GR], by decide, by decide, D1⟩
 ·obtain ⟨f, h2, e2, f0, f1, D2⟩ := take_ok (k := 1000000000000000000000000000000) D1.1 (by omega) (by omega)
  by_cases h5 : d = 5
  ·exact ⟨f, h2, by simp [c_integer, m_integer, b_integer, e1, h5, e2], by unfold GR; omega, by unfold GR; omega, D1.trans D2⟩
  ·exact ⟨0 - f, h2, by simp [c_integer, m_integer, b_integer, e1, hd, h5, e2], by unfold GR; omega, by unfold GR; omega, D1.trans D2⟩
def valB (v : AV) : Bool := match v with
 | .non => true
 | v => intB v
theorem value_ok {n : Nat} {h : AH} (B : BagAt h n) : ∃ (v : AV) (h' : AH), c_value [.ref n] h = .ok v h' ∧ valB v = true ∧ Drew n h h' := by
 obtain ⟨d, h1, e1, d0, d1, D1⟩ := take_ok (k := 4) B (by omega) (by omega)
 by_cases hd : d = 0
 ·exact ⟨.non, h1, by simp [c_value, m_value, b_value, e1, hd], rfl, D1⟩
 ·obtain ⟨i, h2, e2, i0, i1, D2⟩ := integer_ok D1.1
  exact ⟨.int i, h2, by simp [c_value, m_value, b_value, e1, hd, e2], by simp [valB, intB, i0, i1], D1.trans D2⟩
def rowP (p : Str × Int) : AV := .tup [.str p.1, .int p.2]
theorem appR_ok {m : Nat} {xs : List AV} {v : AV} {h : AH} (e : h[m]? = some (some (.lst xs))) (hl : xs.length < 16777216) : kAppR m [v] h = some (.non, h.set m (some (.lst (xs ++ [v])))) := by
 unfold kAppR
 simp only [e]
 rw [if_pos (show small (xs.length + 1) = true from decide_eq_true (by omega))]
theorem rows_loop {n m : Nat} (hnm : m ≠ n) {L : AV} : ∀ (ls : List Str) (rs : List (Str × Int)) (p : Option AV) (h : AH), BagAt h n → h[m]? = some (some (.lst (rs.map rowP))) → rs.length + ls.length ≤ 1000 →
  ∃ (rs' : List (Str × Int)) (p' : Option AV) (h' : AH), forL (gN 3) l0_rows (ls.map .str) [some (.ref n), some L, some (.ref m), p] h = .nx [some (.ref n), some L, some (.ref m), p'] h' ∧ BagAt h' n ∧ h'[m]? = some (some (.lst ((rs ++ rs').map rowP))) ∧ h'.length = h.length ∧ (∀ j, j ≠ n → j ≠ m → h'[j]? = h[j]?) ∧
   (∀ q, q ∈ rs' → -GR ≤ q.2 ∧ q.2 ≤ GR) ∧ List.Sublist (rs'.map (·.1)) ls
 | [], rs, p, h, B, e, hl => ⟨[], p, h, rfl, B, by simpa using e, rfl, fun _ _ _ => rfl, fun q hq => by simp at hq, by simp⟩
 | k :: ls, rs, p, h, B, e, hl => by
  simp only [List.length_cons] at hl
  obtain ⟨d, h1, e1, d0, d1, D1⟩ := take_ok (k := 2) B (by omega) (by omega)
  have m1 : h1[m]? = some (some (.lst (rs.map rowP))) := (D1.2.2 m hnm).trans e
  by_cases hd : d = 0
  ·obtain ⟨i, h2, e2, i0, i1, D2⟩ := integer_ok D1.1
   have m2 : h2[m]? = some (some (.lst (rs.map rowP))) := (D2.2.2 m hnm).trans m1
   have ap := appR_ok (v := .tup [.str k, .int i]) m2 (by rw [List.length_map]; omega)
   obtain ⟨h3, hh3⟩ : ∃ h3, h3 = h2.set m (some (.lst (rs.map rowP ++ [.tup [.str k, .int i]]))) := ⟨_, rfl⟩
   rw [← hh3] at ap
   have m3 : h3[m]? = some (some (.lst ((rs ++ [(k, i)]).map rowP))) := by
    rw [hh3, List.getElem?_set_self (at_lt m2)]
    simp [rowP]
   have k3 : ∀ j, j ≠ m → h3[j]? = h2[j]? := fun j hj => by rw [hh3, gsn (fun z => hj z.symm)]
   have B3 : BagAt h3 n := bag_fr D2.1 (k3 n (fun z => hnm z.symm))
   obtain ⟨rs', p', h', ef, B', m', l', kp, rg, sb⟩ := rows_loop hnm ls (rs ++ [(k, i)]) (some (.str k)) h3 B3 m3 (by simp; omega)
   refine ⟨(k, i) :: rs', p', h', ?_, B', by rw [m']; simp, ?_, fun j j1 j2 => ?_, fun q hq => ?_, by simpa using sb⟩
   ·rw [List.map_cons, forL_cons (τ1 := [some (.ref n), some L, some (.ref m), some (.str k)]) (τ2 := [some (.ref n), some L, some (.ref m), some (.str k)]) (h2 := h3) (by simp) ?_]
    ·exact ef
    ·simp [l0_rows, e1, hd, e2, ap, m1]
   ·rw [l', hh3, List.length_set, D2.2.1, D1.2.1]
   ·rw [kp j j1 j2, k3 j j2, D2.2.2 j j1, D1.2.2 j j1]
   ·rcases List.mem_cons.mp hq with rfl | hq
    ·exact ⟨i0, i1⟩
    ·exact rg q hq
  ·obtain ⟨rs', p', h', ef, B', m', l', kp, rg, sb⟩ := rows_loop hnm ls rs (some (.str k)) h1 D1.1 m1 (by omega)
   refine ⟨rs', p', h', ?_, B', m', l'.trans D1.2.1, fun j j1 j2 => (kp j j1 j2).trans (D1.2.2 j j1), rg, List.Sublist.cons _ sb⟩
   rw [List.map_cons, forL_cons (τ1 := [some (.ref n), some L, some (.ref m), some (.str k)]) (τ2 := [some (.ref n), some L, some (.ref m), some (.str k)]) (h2 := h1) (by simp) ?_]
   ·exact ef
   ·simp [l0_rows, e1, hd]
theorem rows_ok {n : Nat} {h : AH} (B : BagAt h n) {ks : List Str} (hl : ks.length ≤ 100) : ∃ (rs : List (Str × Int)) (h' : AH), c_rows [.ref n, .fl (ks.map .str)] h = .ok (.ref h.length) h' ∧ BagAt h' n ∧ h'[h.length]? = some (some (.lst (rs.map rowP))) ∧ h'.length = h.length + 1 ∧ (∀ j, j ≠ n → j < h.length → h'[j]? = h[j]?) ∧
  (∀ q, q ∈ rs → -GR ≤ q.2 ∧ q.2 ≤ GR) ∧ List.Sublist (rs.map (·.1)) ks := by
 have nl := bag_lt B
 have B0 : BagAt (h ++ [some (.lst [])]) n := bag_fr B (by rw [List.getElem?_append_left nl])
 obtain ⟨rs, p', h', ef, B', m', l', kp, rg, sb⟩ := rows_loop (m := h.length) (by omega) (L := .fl (ks.map .str)) ks [] none (h ++ [some (.lst [])]) B0 (by simp) (by simp; omega)
 refine ⟨rs, h', ?_, B', by simpa using m', by rw [l']; simp, fun j j1 j2 => by rw [kp j j1 (by omega), List.getElem?_append_left j2], rg, sb⟩
 generalize ks.map AV.str = K at *
 simp [c_rows, m_rows, b_rows, ef]
theorem owners_loop {n m : Nat} (hnm : m ≠ n) {L : AV} : ∀ (ls : List Str), (∀ k, k ∈ ls → keyB k = true) → ∀ (os : List Str) (p : Option AV) (h : AH), BagAt h n → h[m]? = some (some (.lst (os.map .str))) → os.length + ls.length ≤ 1000 →
  ∃ (os' : List Str) (p' : Option AV) (h' : AH), forL (gN 3) l0_owners (ls.map .str) [some (.ref n), some L, some (.ref m), p] h = .nx [some (.ref n), some L, some (.ref m), p'] h' ∧ BagAt h' n ∧ h'[m]? = some (some (.lst ((os ++ os').map .str))) ∧ h'.length = h.length ∧ (∀ j, j ≠ n → j ≠ m → h'[j]? = h[j]?) ∧
   (∀ q, q ∈ os' → ∃ k, k ∈ ls ∧ q = ownS k) ∧ os'.length ≤ ls.length
 | [], hk, os, p, h, B, e, hl => ⟨[], p, h, rfl, B, by simpa using e, rfl, fun _ _ _ => rfl, fun q hq => by simp at hq, by simp⟩
 | k :: ls, hk, os, p, h, B, e, hl => by
  simp only [List.length_cons] at hl
  have kk := hk k (by simp)
  have hk' := fun x hx => hk x (List.mem_cons_of_mem k hx)
  obtain ⟨d, h1, e1, d0, d1, D1⟩ := take_ok (k := 3) B (by omega) (by omega)
  have m1 : h1[m]? = some (some (.lst (os.map .str))) := (D1.2.2 m hnm).trans e
  by_cases hd : d = 0
  ·have ap := appR_ok (v := .str (ownS k)) m1 (by rw [List.length_map]; omega)
   have hp := kPart_ok sl_sep sl_tx (key_tx kk) h1
   obtain ⟨h3, hh3⟩ : ∃ h3, h3 = h1.set m (some (.lst (os.map .str ++ [.str (ownS k)]))) := ⟨_, rfl⟩
   rw [← hh3] at ap
   have m3 : h3[m]? = some (some (.lst ((os ++ [ownS k]).map .str))) := by
    rw [hh3, List.getElem?_set_self (at_lt m1)]
    simp
   have k3 : ∀ j, j ≠ m → h3[j]? = h1[j]? := fun j hj => by rw [hh3, gsn (fun z => hj z.symm)]
   have B3 : BagAt h3 n := bag_fr D1.1 (k3 n (fun z => hnm z.symm))
   obtain ⟨os', p', h', ef, B', m', l', kp, rg, sb⟩ := owners_loop hnm ls hk' (os ++ [ownS k]) (some (.str k)) h3 B3 m3 (by simp; omega)
   refine ⟨ownS k :: os', p', h', ?_, B', by rw [m']; simp, ?_, fun j j1 j2 => ?_, fun q hq => ?_, by simp; omega⟩
   ·rw [List.map_cons, forL_cons (τ1 := [some (.ref n), some L, some (.ref m), some (.str k)]) (τ2 := [some (.ref n), some L, some (.ref m), some (.str k)]) (h2 := h3) (by simp) ?_]
    ·exact ef
    ·have ap : kAppR m [.str (Txt.partition k "/").1] h1 = some (.non, h3) := ap
     simp [l0_owners, e1, hd, hp, ap, m1]
   ·rw [l', hh3, List.length_set, D1.2.1]
   ·rw [kp j j1 j2, k3 j j2, D1.2.2 j j1]
   ·rcases List.mem_cons.mp hq with rfl | hq
    ·exact ⟨k, by simp, rfl⟩
    ·obtain ⟨x, hx, e⟩ := rg q hq
     exact ⟨x, by simp [hx], e⟩
  ·obtain ⟨os', p', h', ef, B', m', l', kp, rg, sb⟩ := owners_loop hnm ls hk' os (some (.str k)) h1 D1.1 m1 (by omega)
   refine ⟨os', p', h', ?_, B', m', l'.trans D1.2.1, fun j j1 j2 => (kp j j1 j2).trans (D1.2.2 j j1), fun q hq => ?_, by simp; omega⟩
   ·rw [List.map_cons, forL_cons (τ1 := [some (.ref n), some L, some (.ref m), some (.str k)]) (τ2 := [some (.ref n), some L, some (.ref m), some (.str k)]) (h2 := h1) (by simp) ?_]
    ·exact ef
    ·simp [l0_owners, e1, hd]
   ·obtain ⟨x, hx, e⟩ := rg q hq
    exact ⟨x, by simp [hx], e⟩
theorem owners_ok {n : Nat} {h : AH} (B : BagAt h n) {ks : List Str} (hk : ∀ k, k ∈ ks → keyB k = true) (hl : ks.length ≤ 100) : ∃ (os : List Str) (h' : AH), c_owners [.ref n, .fl (ks.map .str)] h = .ok (.ref h.length) h' ∧ BagAt h' n ∧ h'[h.length]? = some (some (.lst (os.map .str))) ∧ h'.length = h.length + 1 ∧ (∀ j, j ≠ n → j < h.length → h'[j]? = h[j]?) ∧
  (∀ q, q ∈ os → ∃ k, k ∈ ks ∧ q = ownS k) ∧ os.length ≤ ks.length := by
 have nl := bag_lt B
 have B0 : BagAt (h ++ [some (.lst [])]) n := bag_fr B (by rw [List.getElem?_append_left nl])
 obtain ⟨os, p', h', ef, B', m', l', kp, rg, sb⟩ := owners_loop (m := h.length) (by omega) (L := .fl (ks.map .str)) ks hk [] none (h ++ [some (.lst [])]) B0 (by simp) (by simp; omega)
 refine ⟨os, h', ?_, B', by simpa using m', by rw [l']; simp, fun j j1 j2 => by rw [kp j j1 (by omega), List.getElem?_append_left j2], rg, sb⟩
 generalize ks.map AV.str = K at *
 simp [c_owners, m_owners, b_owners, ef]
theorem depth_strs : ∀ ws : List Str, PyData.depthAll (ws.map PyData.str) = 0
 | [] => rfl
 | w :: ws => by rw [List.map_cons, PyData.depthAll, depth_strs ws]; rfl
theorem shaped_strs {ws : List Str} (h : ∀ w, w ∈ ws → PyData.strOk w = true) : SeqAt.shaped (.list (ws.map .str)) = true := by
 unfold SeqAt.shaped
 have a : PyData.canLay0 (.list (ws.map .str)) = true := by
  simp only [PyData.canLay0]
  exact canAll fun d hd => by
   obtain ⟨w, hw, rfl⟩ := List.mem_map.mp hd
   exact h w hw
 rw [a]
 simp [PyData.depth, depth_strs]
theorem any_strs (x : Str) : ∀ ws : List Str, ((ws.map PyData.str).any fun z => PyData.eqv z (.str x)) = decide (x ∈ ws)
 | [] => by simp
 | w :: ws => by
  rw [List.map_cons, List.any_cons, any_strs x ws]
  simp only [PyData.eqv, List.mem_cons]
  by_cases a : w = x
  ·simp [a]
  ·have : ¬ x = w := fun z => a z.symm
   simp [a, this]
theorem inH_str {neg : Bool} {x : Str} {ws : List Str} {w : AV} {h : AH} (e : lstOf w h = some (ws.map .str)) (ox : PyData.strOk x = true) (ow : ∀ w, w ∈ ws → PyData.strOk w = true) : kInH neg (.str x) w h = some (.bl (if neg then !decide (x ∈ ws) else decide (x ∈ ws)), h) := by
 unfold kInH
 rw [datH_strs e]
 have d1 : datH h 12 (.str x) = some (.str x) := rfl
 have d2 : SeqAt.shaped (.str x) = true := by unfold SeqAt.shaped; simp [PyData.canLay0, ox, PyData.depth]
 rw [d1]
 simp only [d2, shaped_strs ow, Bool.and_self, if_true, any_strs]
theorem set_at {h : AH} {m : Nat} {o : Option AO} (e : h[m]? = some o) : h.set m o = h := by
 obtain ⟨hl, e⟩ := List.getElem?_eq_some_iff.mp e
 rw [← e]
 exact List.set_getElem_self hl
def gD (l : List (Str × AV)) : List (Key × AV) := l.map fun p => (.inr p.1, p.2)
theorem any_gD (x : Str) : ∀ l : List (Str × AV), ((gD l).any fun kv => decide (kv.1 = (.inr x : Key))) = decide (x ∈ l.map (·.1))
 | [] => by simp [gD]
 | p :: l => by
  have ih := any_gD x l
  unfold gD at *
  rw [List.map_cons, List.any_cons, ih]
  by_cases a : p.1 = x
  ·simp [a]
  ·have : ¬ x = p.1 := fun z => a z.symm
   simp [a, this]
theorem val_gD (x : Str) : ∀ l : List (Str × AV), (valA (gD l) (.inr x)).isSome = decide (x ∈ l.map (·.1))
 | [] => by simp [gD, valA]
 | p :: l => by
  have ih := val_gD x l
  unfold gD valA at *
  rw [List.map_cons, List.find?_cons]
  by_cases a : p.1 = x
  ·simp [a]
  ·have b : ¬ x = p.1 := fun z => a z.symm
   have c : decide ((Sum.inr p.1 : Key) = .inr x) = false := decide_eq_false (fun z => a (Sum.inr.inj z))
   simp only [c]
   rw [ih]
   simp [b]
theorem put_new {x : Str} {v : AV} {l : List (Str × AV)} (h : ¬ x ∈ l.map (·.1)) : putA (gD l) (.inr x) v = gD (l ++ [(x, v)]) := by
 unfold putA
 rw [any_gD, decide_eq_false h, if_neg (by simp)]
 simp [gD]
abbrev DL := List (Str × AV)
def ksL (l : DL) : List Str := l.map (·.1)
def putL (x : Str) (v : AV) (l : DL) : DL := if x ∈ ksL l then l.map (fun p => if p.1 = x then (p.1, v) else p) else l ++ [(x, v)]
def delL (x : Str) (l : DL) : DL := l.filter fun p => decide (p.1 ≠ x)
theorem put_eq (x : Str) (v : AV) (l : DL) : putA (gD l) (.inr x) v = gD (putL x v l) := by
 unfold putL
 by_cases h : x ∈ ksL l
 ·rw [if_pos h]
  unfold putA
  rw [any_gD, decide_eq_true (show x ∈ l.map (·.1) from h), if_pos rfl]
  unfold gD
  rw [List.map_map, List.map_map]
  refine List.map_congr_left fun p _ => ?_
  simp only [Function.comp_apply]
  by_cases a : p.1 = x
  ·rw [if_pos (by rw [a]), if_pos a]
  ·rw [if_neg (fun z => a (Sum.inr.inj z)), if_neg a]
 ·rw [if_neg h]
  exact put_new h
theorem del_eq (x : Str) : ∀ l : DL, dropA (gD l) (.inr x) = gD (delL x l)
 | [] => rfl
 | p :: l => by
  have ih := del_eq x l
  unfold dropA delL gD at *
  rw [List.map_cons, List.filter_cons, List.filter_cons]
  by_cases a : p.1 = x
  ·have e1 : ¬ ((Sum.inr p.1 : Key) ≠ .inr x) := fun z => z (by rw [a])
   have e2 : ¬ (p.1 ≠ x) := fun z => z a
   simp only [decide_eq_false e1, decide_eq_false e2, Bool.false_eq_true, if_false]
   exact ih
  ·have e1 : (Sum.inr p.1 : Key) ≠ .inr x := fun z => a (Sum.inr.inj z)
   simp only [decide_eq_true e1, decide_eq_true a, if_true]
   rw [ih, List.map_cons]
theorem ks_put (x : Str) (v : AV) (l : DL) : ksL (putL x v l) = if x ∈ ksL l then ksL l else ksL l ++ [x] := by
 unfold putL
 by_cases h : x ∈ ksL l
 ·rw [if_pos h, if_pos h]
  unfold ksL
  rw [List.map_map]
  refine List.map_congr_left fun p _ => ?_
  simp only [Function.comp_apply]
  by_cases a : p.1 = x
  ·rw [if_pos a]
  ·rw [if_neg a]
 ·rw [if_neg h, if_neg h]
  simp [ksL]
theorem ks_del (x : Str) (l : DL) : ksL (delL x l) = (ksL l).filter fun k => decide (k ≠ x) := by
 unfold ksL delL
 rw [List.filter_map]
 rfl
theorem nd_app {l : List Str} {x : Str} (n : l.Nodup) (h : ¬ x ∈ l) : (l ++ [x]).Nodup := by
 refine (List.perm_append_singleton x l).nodup_iff.mpr (List.nodup_cons.mpr ⟨h, n⟩)
theorem nd_put {x : Str} {v : AV} {l : DL} (n : (ksL l).Nodup) : (ksL (putL x v l)).Nodup := by
 rw [ks_put]
 split
 ·exact n
 ·rename_i h; exact nd_app n h
theorem nd_del {x : Str} {l : DL} (n : (ksL l).Nodup) : (ksL (delL x l)).Nodup := by
 rw [ks_del]
 exact n.sublist List.filter_sublist
theorem mem_put {x : Str} {v : AV} {l : DL} {p : Str × AV} (h : p ∈ putL x v l) : p ∈ l ∨ p = (x, v) := by
 unfold putL at h
 split at h
 ·obtain ⟨q, hq, rfl⟩ := List.mem_map.mp h
  by_cases a : q.1 = x
  ·rw [if_pos a, a]; exact .inr rfl
  ·rw [if_neg a]; exact .inl hq
 ·exact (List.mem_append.mp h).imp id fun z => List.mem_singleton.mp z
theorem mem_del {x : Str} {l : DL} {p : Str × AV} (h : p ∈ delL x l) : p ∈ l := (List.mem_filter.mp h).1
theorem val_iff {x : Str} {v : AV} : ∀ {l : DL}, (ksL l).Nodup → (valA (gD l) (.inr x) = some v ↔ (x, v) ∈ l)
 | [], _ => by simp [gD, valA]
 | p :: l, n => by
  obtain ⟨n1, n2⟩ := List.nodup_cons.mp (show (p.1 :: ksL l).Nodup from n)
  have ih := val_iff (x := x) (v := v) n2
  unfold gD valA at *
  rw [List.map_cons, List.find?_cons]
  by_cases a : p.1 = x
  ·have : ¬ (x, v) ∈ l := fun z => n1 (a ▸ List.mem_map.mpr ⟨(x, v), z, rfl⟩)
   simp only [show decide ((Sum.inr p.1 : Key) = .inr x) = true from decide_eq_true (by rw [a])]
   simp only [Option.map_some, Option.some.injEq, List.mem_cons, this, or_false]
   constructor
   ·intro e; rw [← a, ← e]
   ·intro e; rw [← e]
  ·have c : decide ((Sum.inr p.1 : Key) = .inr x) = false := decide_eq_false (fun z => a (Sum.inr.inj z))
   simp only [c]
   rw [ih, List.mem_cons]
   exact ⟨.inr, fun z => z.resolve_left fun e => a (by rw [← e])⟩
theorem val_some {x : Str} {l : DL} : (valA (gD l) (.inr x)).isSome = decide (x ∈ ksL l) := val_gD x l
theorem val_none {x : Str} {l : DL} (h : ¬ x ∈ ksL l) : valA (gD l) (.inr x) = none := by
 have := val_some (x := x) (l := l)
 rw [decide_eq_false h] at this
 simpa using this
theorem nd_len : ∀ {l ks : List Str}, l.Nodup → (∀ x, x ∈ l → x ∈ ks) → l.length ≤ ks.length
 | [], ks, _, _ => Nat.zero_le _
 | x :: l, ks, n, h => by
  obtain ⟨n1, n2⟩ := List.nodup_cons.mp n
  obtain ⟨a, b, rfl⟩ := List.append_of_mem (h x (by simp))
  have := nd_len (ks := a ++ b) n2 fun y hy => by
   have := h y (by simp [hy])
   simp only [List.mem_append, List.mem_cons] at this ⊢
   rcases this with z | z | z
   ·exact .inl z
   ·exact absurd (z ▸ hy) n1
   ·exact .inr z
  simp at this ⊢
  omega
def IntL (ks : List Str) (l : DL) : Prop := ∀ p, p ∈ l → p.1 ∈ ks ∧ ∃ i : Int, p.2 = .int i
def TruL (l : DL) : Prop := ∀ p, p ∈ l → p.2 = .bl true
def getI (l : DL) (x : Str) : Int := match valA (gD l) (.inr x) with
 | some (.int i) => i
 | _ => 0
theorem getI_ok {ks : List Str} {l : DL} (il : IntL ks l) (n : (ksL l).Nodup) {x : Str} (hx : x ∈ ksL l) : valA (gD l) (.inr x) = some (.int (getI l x)) := by
 have h := val_some (x := x) (l := l)
 rw [decide_eq_true hx] at h
 obtain ⟨v, hv⟩ := Option.isSome_iff_exists.mp h
 obtain ⟨i, e⟩ := (il _ ((val_iff n).mp hv)).2
 have e : v = .int i := e
 subst e
 unfold getI
 rw [hv]
theorem len_gD (l : DL) : (gD l).length = l.length := by unfold gD; rw [List.length_map]
def itF (w k : Str) (v : AV) : List (Nat × AV) := [((5 : Nat), .str w), (4, .str k), (28, v), (62, .str (ownS k))]
def itO (w k : Str) (v : AV) : AV := .obj 15 (itF w k v)
theorem valB_cases {v : AV} (h : valB v = true) : v = .non ∨ ∃ i, v = .int i ∧ -GR ≤ i ∧ i ≤ GR := by
 cases v with
 | non => exact .inl rfl
 | int i => exact .inr ⟨i, rfl, by simpa [valB, intB] using h⟩
 | _ => simp [valB, intB] at h
def vA : Option Int → AV
 | none => .non
 | some i => .int i
def okV : Option Int → Prop
 | none => True
 | some i => -GR ≤ i ∧ i ≤ GR
theorem val_o {v : AV} (h : valB v = true) : ∃ o, v = vA o ∧ okV o := by
 rcases valB_cases h with rfl | ⟨i, rfl, q⟩
 ·exact ⟨none, rfl, trivial⟩
 ·exact ⟨some i, rfl, q⟩
@[simp] theorem vA_pl (o : Option Int) : plainV (vA o) = true := by cases o <;> rfl
@[simp] theorem vA_ne (o : Option Int) : notE (vA o) = true := by cases o <;> rfl
def itA (w k : Str) (o : Option Int) : AV := itO w k (vA o)
def stF (a b : Nat) : List (Nat × AV) := [((42 : Nat), .ref a), (43, .ref b)]
def stV (a b : Nat) : AV := .obj 13 (stF a b)
def rowsL (l : DL) : List AV := (sortA (ksL l)).map fun k => .tup [.str k, .int (getI l k)]
theorem keys_gD (l : DL) : (gD l).map (fun p => keyV p.1) = (ksL l).map AV.str := by
 unfold gD ksL
 rw [List.map_map, List.map_map]
 rfl
theorem fo_st {a b : Nat} (h : AH) : fldsOf (stV a b) h = some (13, [((42 : Nat), .ref a), (43, .ref b)]) := rfl
theorem pl_st {a b : Nat} : plainV (stV a b) = true := rfl
theorem sorted_ok {n : Nat} {l : DL} {h : AH} (e : h[n]? = some (some (.dk (gD l)))) (hl : l.length < 60) : kListDF [.ref n] h = some (.fl ((ksL l).map AV.str), h) ∧ kSortF [.fl ((ksL l).map AV.str)] h = some (.fl ((sortA (ksL l)).map .str), h) := by
 constructor
 ·rw [kListDF_ev]
  simp only [dctA, e, Option.bind_some]
  rw [if_pos (show small (gD l).length = true from decide_eq_true (by rw [len_gD]; omega)), keys_gD]
 ·rw [kSortF_ev, sortO_of (ss := ksL l) (by simp [seqD, dctA]) (by unfold ksL; rw [List.length_map]; omega)]
  rfl
theorem tru_put {y : Str} {bo : DL} (t : TruL bo) : TruL (putL y (.bl true) bo) := fun p hp => by
 rcases mem_put hp with h | rfl
 ·exact t p h
 ·rfl
structure Stays (src : Src) (all : List AV) (d : Nat) (Q : AH → Prop) : Prop where
 at_ : ∀ h i, Q h → src i h = some (all[i]?)
 set : ∀ h o, Q h → Q (h.set d o)
theorem stays_tup {all : List AV} {d : Nat} : Stays (srcQ (.tup all)) all d (fun _ => True) := ⟨fun _ _ _ => rfl, fun _ _ _ => trivial⟩
theorem stays_fl {all : List AV} {d : Nat} : Stays (srcQ (.fl all)) all d (fun _ => True) := ⟨fun _ _ _ => rfl, fun _ _ _ => trivial⟩
theorem stays_ref {all : List AV} {r d : Nat} (hrd : r ≠ d) : Stays (srcQ (.ref r)) all d (fun h => h[r]? = some (some (.lst all))) :=
 ⟨fun h i e => by show (seqV (.ref r) h).map _ = _; rw [seqV_ref]; simp [lstOf, e], fun h o e => by rw [gsn (Ne.symm hrd)]; exact e⟩
section
variable {src : Src} {all : List AV} {d : Nat} {Q : AH → Prop} (W : Stays src all d Q) {g : MG} {b : MS} {n i : Nat} {τ τ1 τ2 : AS} {h h2 : AH} {x : AV} {rest : List AV}
include W
theorem fq_nil (q : Q h) (e : all.drop i = []) (hn : 0 < n) : forD g b src n i τ h = .nx τ h := by
 obtain ⟨n, rfl⟩ : ∃ m, n = m + 1 := ⟨n - 1, by omega⟩
 have hi : all.length ≤ i := by simpa using e
 rw [forD, W.at_ h i q]
 simp [hi]
theorem fq_nx (q : Q h) (e : all.drop i = x :: rest) (hn : 0 < n) (eg : g x τ = some τ1) (eb : b τ1 h = .nx τ2 h2) : forD g b src n i τ h = forD g b src (n - 1) (i + 1) τ2 h2 ∧ all.drop (i + 1) = rest := by
 obtain ⟨n, rfl⟩ : ∃ m, n = m + 1 := ⟨n - 1, by omega⟩
 have hi : i < all.length := by
  rcases Nat.lt_or_ge i all.length with z | z
  ·exact z
  ·rw [List.drop_of_length_le z] at e; cases e
 rw [List.drop_eq_getElem_cons hi] at e
 cases e
 refine ⟨?_, rfl⟩
 rw [forD, W.at_ h i q, List.getElem?_eq_getElem hi]
 simp only [eg, eb]
 rfl
end
def rsL (rs : List (Str × Int)) : DL := rs.map fun p => (p.1, .int p.2)
theorem ks_rs (rs : List (Str × Int)) : ksL (rsL rs) = rs.map (·.1) := by
 unfold ksL rsL
 rw [List.map_map]
 rfl
section
variable {ks : List Str} (hk : ∀ k, k ∈ ks → keyB k = true)
include hk
theorem rows_in {V : AV} {src : Src} {all : List AV} {d : Nat} {Q : AH → Prop} (W : Stays src all d Q) : ∀ (rs : List (Str × Int)), (∀ p, p ∈ rs → p.1 ∈ ks ∧ -GR ≤ p.2 ∧ p.2 ≤ GR) → (rs.map (·.1)).Nodup → ∀ (i n : Nat) (l : DL) (p2 p3 : Option AV) (h : AH), all.drop i = rs.map rowP → rs.length < n → Q h → h[d]? = some (some (.dk (gD l))) → l.length + rs.length ≤ 1000 → (∀ x, x ∈ rs.map (·.1) → ¬ x ∈ ksL l) →
    ∃ q2 q3, forD (gT 2 (gsCons (gN 2) (gsCons (gN 3) gsNil))) l0_checked_rows src n i [some V, some (.ref d), p2, p3] h = .nx [some V, some (.ref d), q2, q3] (h.set d (some (.dk (gD (l ++ rsL rs)))))
  | [], hg, nd, i, n, l, p2, p3, h, e, hn, q, hd, hl, hx => ⟨p2, p3, by rw [fq_nil W q e (by omega)]; simp [rsL, set_at hd]⟩
  | (k, v) :: rs, hg, nd, i, n, l, p2, p3, h, e, hn, q, hd, hl, hx => by
    simp only [List.length_cons] at hl hn
    obtain ⟨kk, v0, v1⟩ := hg (k, v) (by simp)
    rw [List.map_cons] at nd
    obtain ⟨n1, n2⟩ := List.nodup_cons.mp nd
    have kx := hk k kk
    have ik := is_key_ok (v := .str k) (key_tx kx) h
    rw [show isKeyB (.str k) = true from kx] at ik
    have iv := is_integer_ok (v := .int v) ⟨_, rfl⟩ h
    rw [show intB (.int v) = true from decide_eq_true ⟨v0, v1⟩] at iv
    have nk : ¬ k ∈ ksL l := hx k (by simp)
    have vn := val_none nk
    have ep : putA (gD l) (.inr k) (.int v) = gD (l ++ [(k, .int v)]) := put_new nk
    have sm : (gD l).length + 1 ≤ 16777216 := by rw [len_gD]; omega
    obtain ⟨st, dr⟩ := fq_nx W (n := n) (x := rowP (k, v)) (rest := rs.map rowP) (g := gT 2 (gsCons (gN 2) (gsCons (gN 3) gsNil))) (b := l0_checked_rows) (τ := [some V, some (.ref d), p2, p3]) (τ1 := [some V, some (.ref d), some (.str k), some (.int v)]) (τ2 := [some V, some (.ref d), some (.str k), some (.int v)]) (h2 := h.set d (some (.dk (gD (l ++ [(k, .int v)]))))) q e (by omega) (by simp [rowP]) (by
      simp [l0_checked_rows, ik, iv, hd, vn, ep, sm])
    obtain ⟨q2, q3, ef⟩ := rows_in W rs (fun p hp => hg p (List.mem_cons_of_mem _ hp)) n2 (i + 1) (n - 1) (l ++ [(k, .int v)]) (some (.str k)) (some (.int v)) _ dr (by omega) (W.set _ _ q) (at_set hd) (by simp; omega) (fun x hx' z => by
      unfold ksL at z
      rw [List.map_append, List.mem_append] at z
      rcases z with z | z
      · exact hx x (by simp only [List.map_cons, List.mem_cons]; exact .inr hx') z
      · have : x = k := by simpa using z
        exact n1 (this ▸ hx'))
    exact ⟨q2, q3, by rw [st, ef, List.set_set]; simp [rsL]⟩
theorem rows_new {V : AV} {src : Src} {h : AH} {rs : List (Str × Int)} {Q : AH → Prop} (W : Stays src (rs.map rowP) h.length Q) (q : Q (h ++ [some (.dk (gD []))])) (es : ∀ τ, τ[0]? = some (some V) → mSrcQ (mVar 0) τ (h ++ [some (.dk (gD []))]) = .ok src (h ++ [some (.dk (gD []))])) (hg : ∀ p, p ∈ rs → p.1 ∈ ks ∧ -GR ≤ p.2 ∧ p.2 ≤ GR) (nd : (rs.map (·.1)).Nodup) (lr : rs.length < 100) :
  c_checked_rows [V] h = .ok (.ref h.length) (h ++ [some (.dk (gD (rsL rs)))]) := by
 have st : c_checked_rows [V] h = (b_checked_rows [some V, none, none, none] h).fin := rfl
 have e0 : sSet 1 mDNew [some V, none, none, none] h = .nx [some V, some (.ref h.length), none, none] (h ++ [some (AO.dk (gD []))]) := by
  simp [gD]
 obtain ⟨q2, q3, ef⟩ := rows_in hk (V := V) W rs hg nd 0 100 [] none none (h ++ [some (.dk (gD []))]) rfl lr q (by simp) (by simp; omega) (fun x _ => by simp [ksL])
 rw [st]
 unfold b_checked_rows
 rw [sSeq_ev, e0, thn_nx, sSeq_ev, sForD_ev, es _ rfl]
 simp only [bindS_ok, fForD_ev]
 rw [ef, thn_nx]
 simp
end
def bornL (os : List Str) (acc : DL) : DL := os.foldl (fun acc y => putL y (.bl true) acc) acc
theorem born_nd : ∀ (os : List Str) (acc : DL), (ksL acc).Nodup → (ksL (bornL os acc)).Nodup
 | [], acc, n => n
 | y :: os, acc, n => born_nd os _ (nd_put n)
theorem born_tru : ∀ (os : List Str) (acc : DL), TruL acc → TruL (bornL os acc)
 | [], acc, n => n
 | y :: os, acc, n => born_tru os _ (tru_put n)
theorem mem_ksput {x y : Str} {v : AV} {l : DL} : x ∈ ksL (putL y v l) ↔ x = y ∨ x ∈ ksL l := by
 rw [ks_put]
 by_cases c : y ∈ ksL l
 ·rw [if_pos c]
  exact ⟨.inr, fun h => h.elim (fun e => e ▸ c) id⟩
 ·rw [if_neg c, List.mem_append, List.mem_singleton]
  exact Or.comm
theorem born_mem {x : Str} : ∀ (os : List Str) (acc : DL), x ∈ ksL (bornL os acc) ↔ x ∈ os ∨ x ∈ ksL acc
 | [], acc => by simp [bornL]
 | y :: os, acc => by
  rw [show bornL (y :: os) acc = bornL os (putL y (.bl true) acc) from rfl, born_mem os, mem_ksput, List.mem_cons]
  constructor
  ·rintro (h | h | h)
   ·exact .inl (.inr h)
   ·exact .inl (.inl h)
   ·exact .inr h
  ·rintro ((h | h) | h)
   ·exact .inr (.inl h)
   ·exact .inl h
   ·exact .inr (.inr h)
theorem born_len : ∀ (os : List Str) (acc : DL), (bornL os acc).length ≤ acc.length + os.length
 | [], acc => by simp [bornL]
 | y :: os, acc => by
  have := born_len os (putL y (.bl true) acc)
  have l1 : (putL y (.bl true) acc).length ≤ acc.length + 1 := by
   unfold putL
   split <;> simp
  rw [show bornL (y :: os) acc = bornL os (putL y (.bl true) acc) from rfl, List.length_cons]
  omega
theorem merge_born : ∀ (os : List Str) (acc : DL), mergeA (gD acc) (gD (os.map fun y => (y, AV.bl true))) = gD (bornL os acc)
 | [], acc => rfl
 | y :: os, acc => by
  have ih := merge_born os (putL y (.bl true) acc)
  rw [← put_eq] at ih
  exact ih
theorem mapM_pair : ∀ l : DL, (l.map fun p => AV.tup [.str p.1, p.2]).mapM pairA = some (gD l)
 | [] => rfl
 | p :: l => by
  have ih := mapM_pair l
  rw [List.map_cons, List.mapM_cons, ih]
  rfl
theorem merge_rows : ∀ (rs acc : DL), ((ksL acc) ++ (ksL rs)).Nodup → mergeA (gD acc) (gD rs) = gD (acc ++ rs)
 | [], acc, n => by simp [gD, mergeA]
 | p :: rs, acc, n => by
  have hp : ¬ p.1 ∈ ksL acc := fun z => by
   obtain ⟨_, _, c⟩ := List.nodup_append.mp n
   exact c p.1 z p.1 (by simp [ksL]) rfl
  have ih := merge_rows rs (acc ++ [p]) (by
   have : ksL (acc ++ [p]) ++ ksL rs = ksL acc ++ ksL (p :: rs) := by simp [ksL]
   rw [this]; exact n)
  have e : putA (gD acc) (.inr p.1) p.2 = gD (acc ++ [p]) := put_new hp
  rw [← e, List.append_assoc] at ih
  exact ih
def Pass (V : AV) (all : List AV) (h : AH) : Prop := V = .tup all ∨ V = .fl all ∨ ∃ r, V = .ref r ∧ h[r]? = some (some (.lst all))
theorem pass_src {V : AV} {all : List AV} {h h1 : AH} (P : Pass V all h) (k : Kp h h1) {d : Nat} (hd : h.length ≤ d) : ∃ Q : AH → Prop, Stays (srcQ V) all d Q ∧ Q h1 ∧ ∀ (τ : AS) (i : Nat), τ[i]? = some (some V) → mSrcQ (mVar i) τ h1 = .ok (srcQ V) h1 := by
 rcases P with rfl | rfl | ⟨r, rfl, e⟩
 ·exact ⟨_, stays_tup, trivial, fun τ i e => by simp [mVar, e]⟩
 ·exact ⟨_, stays_fl, trivial, fun τ i e => by simp [mVar, e]⟩
 ·have e1 := k.at e
  exact ⟨_, stays_ref (by have := at_lt e; omega), e1, fun τ i e => by simp [mVar, e, e1]⟩
theorem Pass.kp {V : AV} {all : List AV} {h h1 : AH} (P : Pass V all h) (k : Kp h h1) : Pass V all h1 := by
 rcases P with rfl | rfl | ⟨r, rfl, e⟩
 ·exact .inl rfl
 ·exact .inr (.inl rfl)
 ·exact .inr (.inr ⟨r, rfl, k.at e⟩)
theorem pass_isi {V : AV} {all : List AV} {h : AH} (P : Pass V all h) : kIsi kt [V, .cls 12] h = some (.bl false, h) := by
 rcases P with rfl | rfl | ⟨r, rfl, e⟩
 ·rfl
 ·rfl
 ·simp [kIsi, typA, clsA, kt, ktOf, ktF, ktG, ktT, e]
section
variable {ks : List Str} (hk : ∀ k, k ∈ ks → keyB k = true)
include hk
theorem owners_in {K V : AV} {src : Src} {all : List AV} {b : Nat} {Q : AH → Prop} (W : Stays src all b Q) : ∀ (ns : List Str), (∀ y, y ∈ ns → fitB y = true) → ∀ (i n : Nat) (acc : DL) (p3 p4 : Option AV) (h : AH), all.drop i = ns.map .str → ns.length < n → Q h → h[b]? = some (some (.dk (gD acc))) → acc.length + ns.length ≤ 1000 →
    ∃ q3, forD (gN 3) l0_checked_owners src n i [some K, some V, some (.ref b), p3, p4] h = .nx [some K, some V, some (.ref b), q3, p4] (h.set b (some (.dk (gD (bornL ns acc)))))
  | [], hg, i, n, acc, p3, p4, h, e, hn, q, hd, hl => ⟨p3, by rw [fq_nil W q e (by omega)]; simp [bornL, set_at hd]⟩
  | y :: ns, hg, i, n, acc, p3, p4, h, e, hn, q, hd, hl => by
    simp only [List.length_cons] at hl hn
    have fy := hg y (by simp)
    have iN := is_name_ok (v := .str y) (fit_tx fy) h
    rw [show nameB (.str y) = true from fy] at iN
    have ep := put_eq y (.bl true) acc
    have sm : (gD acc).length + 1 ≤ 16777216 := by rw [len_gD]; omega
    have l1 : (putL y (.bl true) acc).length ≤ acc.length + 1 := by
      unfold putL
      split <;> simp
    obtain ⟨st, dr⟩ := fq_nx W (n := n) (x := .str y) (rest := ns.map .str) (g := gN 3) (b := l0_checked_owners) (τ := [some K, some V, some (.ref b), p3, p4]) (τ1 := [some K, some V, some (.ref b), some (.str y), p4]) (τ2 := [some K, some V, some (.ref b), some (.str y), p4]) (h2 := h.set b (some (.dk (gD (putL y (.bl true) acc))))) q e (by omega) (by simp) (by
      simp [l0_checked_owners, iN, hd, ep, sm])
    obtain ⟨q3, ef⟩ := owners_in W ns (fun z hz => hg z (List.mem_cons_of_mem _ hz)) (i + 1) (n - 1) (putL y (.bl true) acc) (some (.str y)) p4 _ dr (by omega) (W.set _ _ q) (at_set hd) (by omega)
    exact ⟨q3, by rw [st, ef, List.set_set]; rfl⟩
theorem born_comp {d : Nat} {l : DL} {h : AH} {Nm : AV} (e : h[d]? = some (some (.dk (gD l)))) (il : IntL ks l) (ll : l.length ≤ 1000) : mLcK 0 [4] (gE 4) mYes (mL kTup (mCons (mCall c_owner_of (mCons (mVar 4) mNil)) (mCons (mC (.bl true)) mNil))) [some (.ref d), some Nm, none, none, none] h = .ok (.fl ((((ksL l).map ownS).map fun y => (y, AV.bl true)).map fun p => AV.tup [.str p.1, p.2])) h := by
 rw [mLcK_ev (kvs := gD l) rfl e, keys_gD, lcL_map (fun v => match v with | .str k => .tup [.str (ownS k), .bl true] | _ => .non) ((ksL l).map AV.str) (fun v hv => ?_) (by unfold ksL; simp; omega)]
 ·simp only
  rw [List.set_set, set_at e]
  rw [List.map_map, List.map_map, List.map_map]
  rfl
 ·obtain ⟨k, hk1, rfl⟩ := List.mem_map.mp hv
  obtain ⟨p, hp, rfl⟩ := List.mem_map.mp hk1
  have kk := hk _ (il p hp).1
  have oo := owner_of_ok kk (h.set d none)
  exact ⟨[some (.ref d), some Nm, none, none, some (.str p.1)], by simp [wipeA], by simp [oo]⟩
theorem owners_new {d : Nat} {l : DL} {V : AV} {ns : List Str} {h : AH} (e : h[d]? = some (some (.dk (gD l)))) (il : IntL ks l) (ll : l.length ≤ 100) (P : Pass V (ns.map .str) h) (hg : ∀ y, y ∈ ns → fitB y = true) (ln : ns.length < 100) :
  c_checked_owners [.ref d, V] h = .ok (.ref h.length) (h ++ [some (.dk (gD (bornL ns (bornL ((ksL l).map ownS) []))))]) := by
 have bc := born_comp hk (Nm := V) e il (by omega)
 have lo : (bornL ((ksL l).map ownS) []).length ≤ 100 := by
  have := born_len ((ksL l).map ownS) []
  unfold ksL at this ⊢
  simp at this ⊢
  omega
 have e0 : sSet 2 (mL kDictR (mCons (mLcK 0 [4] (gE 4) mYes (mL kTup (mCons (mCall c_owner_of (mCons (mVar 4) mNil)) (mCons (mC (.bl true)) mNil)))) mNil)) [some (.ref d), some V, none, none, none] h = .nx [some (.ref d), some V, some (.ref h.length), none, none] (h ++ [some (AO.dk (gD (bornL ((ksL l).map ownS) [])))]) := by
  have eb := merge_born ((ksL l).map ownS) []
  have eb : mergeA [] (gD (((ksL l).map ownS).map fun y => (y, AV.bl true))) = gD (bornL ((ksL l).map ownS) []) := eb
  have sm : small ((((ksL l).map ownS).map fun y => (y, AV.bl true)).map fun p => AV.tup [.str p.1, p.2]).length = true := decide_eq_true (by unfold ksL; simp; omega)
  have mp := mapM_pair (((ksL l).map ownS).map fun y => (y, AV.bl true))
  have kd : kDictR [.fl ((((ksL l).map ownS).map fun y => (y, AV.bl true)).map fun p => AV.tup [.str p.1, p.2])] h = some (.ref h.length, h ++ [some (AO.dk (gD (bornL ((ksL l).map ownS) [])))]) := by
   rw [kDictR_ev]
   unfold dctOf
   simp only [dctA, lstOf_fl, Option.bind_some]
   rw [if_pos sm, mp, Option.map_some, eb]
   rfl
  rw [sSet_ev, mL_ev, mCons_ev, bc, bind_ok, fCons_ev, mNil_ev, bind_ok, fCons2_ev, bind_ok, fL_ev, kd]
  rfl
 obtain ⟨Q, W, q, es⟩ := pass_src (d := h.length) P (h1 := h ++ [some (AO.dk (gD (bornL ((ksL l).map ownS) [])))]) Kp.app (Nat.le_refl _)
 obtain ⟨q3, ef⟩ := owners_in hk (K := .ref d) (V := V) W ns hg 0 100 (bornL ((ksL l).map ownS) []) none none (h ++ [some (AO.dk (gD (bornL ((ksL l).map ownS) [])))]) rfl ln q (by simp) (by omega)
 have st : c_checked_owners [.ref d, V] h = (b_checked_owners [some (.ref d), some V, none, none, none] h).fin := rfl
 rw [st]
 unfold b_checked_owners
 rw [sSeq_ev, e0, thn_nx, sSeq_ev, sForD_ev, es _ 1 rfl]
 simp only [bindS_ok, fForD_ev]
 rw [ef, thn_nx]
 simp
def bornO (rs : List (Str × Int)) (ns : List Str) : DL := bornL ns (bornL ((rs.map (·.1)).map ownS) [])
theorem int_rs {rs : List (Str × Int)} (hg : ∀ p, p ∈ rs → p.1 ∈ ks ∧ -GR ≤ p.2 ∧ p.2 ≤ GR) : IntL ks (rsL rs) := fun p hp => by
 obtain ⟨q, hq, rfl⟩ := List.mem_map.mp hp
 exact ⟨(hg q hq).1, q.2, rfl⟩
theorem init_ok {V1 V2 : AV} {rs : List (Str × Int)} {ns : List Str} {h : AH} (P1 : Pass V1 (rs.map rowP) h) (P2 : Pass V2 (ns.map .str) h) (hg : ∀ p, p ∈ rs → p.1 ∈ ks ∧ -GR ≤ p.2 ∧ p.2 ≤ GR) (nd : (rs.map (·.1)).Nodup) (lr : rs.length < 60) (hn : ∀ y, y ∈ ns → fitB y = true) (ln : ns.length < 60) :
  m_Store__init [V1, V2] h = .ok (stF h.length (h.length + 1)) (h ++ [some (.dk (gD (rsL rs)))] ++ [some (.dk (gD (bornO rs ns)))]) := by
 obtain ⟨Q, W, q, es⟩ := pass_src (d := h.length) P1 (h1 := h ++ [some (AO.dk (gD []))]) Kp.app (Nat.le_refl _)
 have e1 := rows_new hk (V := V1) W q (fun τ e => es τ 0 e) hg nd (by omega)
 have e2 := owners_new hk (d := h.length) (l := rsL rs) (V := V2) (ns := ns) (h := h ++ [some (.dk (gD (rsL rs)))]) (by simp) (int_rs hk hg) (by unfold rsL; rw [List.length_map]; omega) (P2.kp Kp.app) hn (by omega)
 rw [ks_rs] at e2
 have e2 : c_checked_owners [.ref h.length, V2] (h ++ [some (.dk (gD (rsL rs)))]) = .ok (.ref (h ++ [some (AO.dk (gD (rsL rs)))]).length) (h ++ [some (AO.dk (gD (rsL rs)))] ++ [some (.dk (gD (bornO rs ns)))]) := e2
 rw [show (h ++ [some (AO.dk (gD (rsL rs)))]).length = h.length + 1 from by simp] at e2
 have ii := pass_isi P1
 have p1 : plainV V1 = true := by rcases P1 with rfl | rfl | ⟨r, rfl, e⟩ <;> first | rfl | (simp [plainV]; done)
 have p2 : plainV V2 = true := by rcases P2 with rfl | rfl | ⟨r, rfl, e⟩ <;> first | rfl | (simp [plainV]; done)
 generalize gD (rsL rs) = A at *
 generalize gD (bornO rs ns) = O at *
 simp [m_Store__init, b_Store__init, PI.runI, ii, e1, e2, stF, p1, p2]
end
abbrev I3 := Str × Str × Option Int
def itR (r : I3) : AV := itA r.1 r.2.1 r.2.2
def Its (h : AH) (v : AV) (rs : List I3) : Prop := lstOf v h = some (rs.map itR)
def Prt (h : AH) (v : AV) (ps : List (List I3)) : Prop := ∃ vs, lstOf v h = some vs ∧ Al2 (Its h) vs ps
theorem Its.kp {h h' : AH} {v : AV} {rs : List I3} (a : Its h v rs) (k : Kp h h') : Its h' v rs := by
 unfold Its at *
 cases v with
 | fl xs => exact a
 | ref n =>
  unfold lstOf at a ⊢
  simp only at a ⊢
  split at a
  ·rename_i xs e
   rw [k.at e]
   exact a
  ·cases a
 | _ => cases a
theorem lst_kp {h h' : AH} {v : AV} {xs : List AV} (a : lstOf v h = some xs) (k : Kp h h') : lstOf v h' = some xs := by
 cases v with
 | fl ys => exact a
 | ref n =>
  unfold lstOf at a ⊢
  simp only at a ⊢
  split at a
  ·rename_i ys e
   rw [k.at e]
   exact a
  ·cases a
 | _ => cases a
theorem al2_mono {α β : Type} {R S : α → β → Prop} {as : List α} {bs : List β} (x : Al2 R as bs) (f : ∀ a b, R a b → S a b) : Al2 S as bs := by
 induction x with
 | nil => exact .nil
 | cons r _ ih => exact .cons (f _ _ r) ih
theorem Prt.kp {h h' : AH} {v : AV} {ps : List (List I3)} (a : Prt h v ps) (k : Kp h h') : Prt h' v ps := by
 obtain ⟨vs, e, x⟩ := a
 exact ⟨vs, lst_kp e k, al2_mono x fun _ _ r => r.kp k⟩
structure St (ks : List Str) (h : AH) (a b : Nat) (l bo : DL) : Prop where
 ha : h[a]? = some (some (.dk (gD l)))
 hb : h[b]? = some (some (.dk (gD bo)))
 il : IntL ks l
 rg : ∀ p, p ∈ l → ∃ i : Int, p.2 = .int i ∧ -GR ≤ i ∧ i ≤ GR
 tb : TruL bo
 nl : (ksL l).Nodup
 nb : (ksL bo).Nodup
 fb : ∀ x, x ∈ ksL bo → fitB x = true
 ll : l.length < 50
 lb : bo.length < 50
theorem St.kp {ks : List Str} {h h' : AH} {a b : Nat} {l bo : DL} (S : St ks h a b l bo) (k : Kp h h') : St ks h' a b l bo := ⟨k.at S.ha, k.at S.hb, S.il, S.rg, S.tb, S.nl, S.nb, S.fb, S.ll, S.lb⟩
theorem St.to {ks : List Str} {h h' : AH} {a b a' b' : Nat} {l bo : DL} (S : St ks h a b l bo) (e1 : h'[a']? = some (some (.dk (gD l)))) (e2 : h'[b']? = some (some (.dk (gD bo)))) : St ks h' a' b' l bo := ⟨e1, e2, S.il, S.rg, S.tb, S.nl, S.nb, S.fb, S.ll, S.lb⟩
section
variable {ks : List Str} {h : AH} {a b a' b' : Nat} {l bo l' bo' : DL}
end
section
variable {ks : List Str} (hk : ∀ k, k ∈ ks → keyB k = true) {h : AH} {a b : Nat} {l bo : DL}
include hk
end
section
variable {ks : List Str} (hk : ∀ k, k ∈ ks → keyB k = true) {h : AH} {a b : Nat} {l bo : DL}
include hk
end
structure Sw (ks : List Str) (h : AH) (a b : Nat) (l bo : DL) : Prop where
 ha : h[a]? = some (some (.dk (gD l)))
 hb : h[b]? = some (some (.dk (gD bo)))
 ab : a ≠ b
 il : IntL ks l
 tb : TruL bo
 nl : (ksL l).Nodup
 nb : (ksL bo).Nodup
 fb : ∀ x, x ∈ ksL bo → fitB x = true
 ow : ∀ x, x ∈ ksL l → ownS x ∈ ksL bo
theorem put_ok {ks : List Str} {h : AH} {a b : Nat} {l bo : DL} (hk : ∀ k, k ∈ ks → keyB k = true) (ha : h[a]? = some (some (.dk (gD l)))) (hb : h[b]? = some (some (.dk (gD bo)))) (ll : l.length ≤ 1000) (lb : bo.length ≤ 1000) (ab : a ≠ b) {x : Str} (hx : x ∈ ks) {i : Int} :
  c_Store_put [stV a b, .str x, .int i] h = .ok .non ((h.set a (some (.dk (gD (putL x (.int i) l))))).set b (some (.dk (gD (putL (ownS x) (.bl true) bo))))) := by
 have kx := hk x hx
 have s1 : (gD l).length + 1 ≤ 16777216 := by rw [len_gD]; omega
 have s2 : (gD bo).length + 1 ≤ 16777216 := by rw [len_gD]; omega
 obtain ⟨h1, hh1⟩ : ∃ h1, h1 = h.set a (some (AO.dk (gD (putL x (.int i) l)))) := ⟨_, rfl⟩
 have hb1 : h1[b]? = some (some (.dk (gD bo))) := by rw [hh1, gsn ab]; exact hb
 have oo : c_owner_of [.str x] h1 = .ok (.str (ownS x)) h1 := owner_of_ok kx h1
 have e1 := put_eq x (.int i) l
 have e2 := put_eq (ownS x) (.bl true) bo
 rw [← hh1]
 simp [c_Store_put, m_Store_put, b_Store_put, fo_st, pl_st, ha, e1, s1, ← hh1, oo, hb1, e2, s2]
theorem row_ok {ks : List Str} {h : AH} {a b : Nat} {l : DL} (ha : h[a]? = some (some (.dk (gD l)))) (il : IntL ks l) (nl : (ksL l).Nodup) {x : Str} (kx : keyB x = true) :
  c_Store_row [stV a b, .str x] h = .ok (if x ∈ ksL l then .tup [.int (getI l x)] else .tup []) h := by
 have ik := is_key_ok (v := .str x) (key_tx kx) h
 rw [show isKeyB (.str x) = true from kx] at ik
 by_cases c : x ∈ ksL l
 ·have g := getI_ok il nl c
  simp [c_Store_row, m_Store_row, b_Store_row, ik, fo_st, pl_st, ha, g, c]
 ·have g := val_none c
  simp [c_Store_row, m_Store_row, b_Store_row, ik, fo_st, pl_st, ha, g, c]
theorem drop_ok {ks : List Str} {h : AH} {a b : Nat} {l : DL} (ha : h[a]? = some (some (.dk (gD l)))) (il : IntL ks l) (nl : (ksL l).Nodup) {x : Str} (kx : keyB x = true) (hx : x ∈ ksL l) :
  c_Store_drop [stV a b, .str x] h = .ok .non (h.set a (some (.dk (gD (delL x l))))) := by
 have ik := is_key_ok (v := .str x) (key_tx kx) h
 rw [show isKeyB (.str x) = true from kx] at ik
 have g := getI_ok il nl hx
 have e := del_eq x l
 simp [c_Store_drop, m_Store_drop, b_Store_drop, ik, fo_st, pl_st, ha, g, e]
end Wk12
namespace Wk12
namespace Bo
open PySem PySem.Spec PyProof.Rows L2 PI
theorem in_list {a : Str} {xs : List Str} : inA (.str a) (xs.map .str) = decide (a ∈ xs) := by
 unfold inA
 rw [List.any_map, Bool.eq_iff_iff, List.any_eq_true, decide_eq_true_iff]
 constructor
 ·rintro ⟨x, hx, e⟩
  have e : (x == a) = true := e
  rw [← eq_of_beq e]
  exact hx
 ·intro h
  exact ⟨a, h, show (a == a) = true from beq_self_eq_true a⟩
theorem kIn_list {a : Str} {xs : List Str} (h : AH) : kInB false (.str a) (.fl (xs.map .str)) h = some (.bl (decide (a ∈ xs)), h) := by
 have : (xs.map AV.str).all flatA = true := List.all_eq_true.mpr fun y hy => by
  obtain ⟨x, _, rfl⟩ := List.mem_map.mp hy
  rfl
 unfold kInB
 simp only [seqOf, this, in_list]
 rfl
theorem or_b {c d : MT} {τ : AS} {h : AH} {p q : Bool} (e1 : c τ h = .ok p h) (e2 : d τ h = .ok q h) : mTOr c d τ h = .ok (p || q) h := by
 cases p with
 | true => exact or_t e1
 | false => exact or_f e1 e2
theorem and_b {c d : MT} {τ : AS} {h : AH} {p q : Bool} (e1 : c τ h = .ok p h) (e2 : d τ h = .ok q h) : mTAnd c d τ h = .ok (p && q) h := by
 cases p with
 | true => exact and_t e1 e2
 | false => exact and_f e1
theorem valA_cons {k k' : Key} {v : AV} {r : List (Key × AV)} : valA ((k, v) :: r) k' = if k = k' then some v else valA r k' := by
 unfold valA
 rw [List.find?_cons]
 by_cases e : k = k'
 ·simp [e]
 ·simp [e]
theorem run_fin {N K : Nat} {m : MS} {vs : List AV} {h : AH} {τ : AS} (hl : vs.length = N) (hτ : vs.map some ++ List.replicate (K - vs.length) none = τ) : chk N (runF K m) (vs ++ []) h = SRes.fin (m τ h) := by
 rw [List.append_nil, chk_ev, if_pos hl, runF_ev, hτ]
theorem name_fit {w : Str} (f : fitB w = true) (h : AH) : c_is_name [.str w] h = .ok (.bl true) h := by
 have := is_name_ok (v := .str w) (fit_tx f) h
 rw [show nameB (.str w) = true from f] at this
 exact this
structure Pw (ks : List Str) (l bo : DL) : Prop where
 il : IntL ks l
 tb : TruL bo
 nl : (ksL l).Nodup
 nb : (ksL bo).Nodup
 fb : ∀ x, x ∈ ksL bo → fitB x = true
 ow : ∀ x, x ∈ ksL l → ownS x ∈ ksL bo
theorem Pw.sw {ks : List Str} {h : AH} {a b : Nat} {l bo : DL} (P : Pw ks l bo) (ha : h[a]? = some (some (.dk (gD l)))) (hb : h[b]? = some (some (.dk (gD bo)))) (ab : a ≠ b) : Sw ks h a b l bo := ⟨ha, hb, ab, P.il, P.tb, P.nl, P.nb, P.fb, P.ow⟩
theorem pw_put {ks : List Str} (hk : ∀ k, k ∈ ks → keyB k = true) {l bo : DL} (P : Pw ks l bo) {x : Str} (hx : x ∈ ks) {i : Int} : Pw ks (putL x (.int i) l) (putL (ownS x) (.bl true) bo) where
 il := fun p hp => by
  rcases mem_put hp with h | rfl
  ·exact P.il p h
  ·exact ⟨hx, i, rfl⟩
 tb := tru_put P.tb
 nl := nd_put P.nl
 nb := nd_put P.nb
 fb := fun y hy => by
  rcases mem_ksput.mp hy with rfl | hy
  ·exact own_fit (hk x hx)
  ·exact P.fb y hy
 ow := fun y hy => by
  rcases mem_ksput.mp hy with rfl | hy
  ·exact mem_ksput.mpr (.inl rfl)
  ·exact mem_ksput.mpr (.inr (P.ow y hy))
theorem pw_del {ks : List Str} {l bo : DL} (P : Pw ks l bo) (x : Str) : Pw ks (delL x l) bo where
 il := fun p hp => P.il p (mem_del hp)
 tb := P.tb
 nl := nd_del P.nl
 nb := P.nb
 fb := P.fb
 ow := fun y hy => by
  rw [ks_del] at hy
  exact P.ow y (List.mem_filter.mp hy).1
theorem app_run {i m : Nat} {me : ME} {τ : AS} {h h1 : AH} {xs ys : List AV} {v : AV} (hi : τ[i]? = some (some (.ref m))) (e0 : h[m]? = some (some (.lst ys))) (e1 : me τ h = .ok v h1) (e2 : h1[m]? = some (some (.lst xs))) (hl : xs.length ≤ 100000) :
  sExpr (mBMl kAppR (mVar i) (mCons me mNil)) τ h = .nx τ (h1.set m (some (.lst (xs ++ [v])))) := by
 have ap : kAppR m [v] h1 = some (.non, h1.set m (some (.lst (xs ++ [v])))) := by
  unfold kAppR
  simp only [e2]
  rw [if_pos (small_of (by omega))]
 rw [sExpr_ev, mBMl_ev, var_ok (v := .ref m) hi rfl, bind_ok, fBMl_ev, e0]
 simp only
 rw [mCons_ev, e1]
 show (Res.of (kAppR m [v] h1)).bindS _ _ = _
 rw [ap]
 rfl
theorem kill_ok {m : Nat} {me : ME} {τ : AS} {h h1 : AH} {xs : List AV} (e : me τ h = .ok (.ref m) h1) (e1 : h1[m]? = some (some (.lst xs))) : mKill me τ h = .ok (.fl xs) (h1.set m none) := by
 rw [mKill_ev, e, bind_ok]
 unfold killA
 simp only [e1]
abbrev TM (α : Type) := List (Str × α)
def tD {α : Type} (f : α → AV) (m : TM α) : DL := m.map fun p => (p.1, f p.2)
def ksM {α : Type} (m : TM α) : List Str := m.map (·.1)
def getM {α : Type} (m : TM α) (x : Str) : Option α := (m.find? fun p => decide (p.1 = x)).map (·.2)
def putM {α : Type} (x : Str) (v : α) (m : TM α) : TM α := if x ∈ ksM m then m.map (fun p => if p.1 = x then (p.1, v) else p) else m ++ [(x, v)]
theorem val_tD {α : Type} (f : α → AV) (x : Str) : ∀ m : TM α, valA (gD (tD f m)) (.inr x) = (getM m x).map f
 | [] => rfl
 | p :: r => by
  have ih := val_tD f x r
  show valA ((.inr p.1, f p.2) :: gD (tD f r)) (.inr x) = _
  rw [valA_cons]
  unfold getM at ih ⊢
  by_cases e : p.1 = x
  ·simp [e]
  ·rw [if_neg (fun q => e (Sum.inr.inj q)), ih, List.find?_cons_of_neg (by simpa using e)]
theorem ks_putM {α : Type} (x : Str) (v : α) (m : TM α) : ksM (putM x v m) = if x ∈ ksM m then ksM m else ksM m ++ [x] := by
 unfold putM
 by_cases c : x ∈ ksM m
 ·rw [if_pos c, if_pos c]
  unfold ksM
  rw [List.map_map]
  refine List.map_congr_left fun p _ => ?_
  by_cases e : p.1 = x <;> simp [e]
 ·rw [if_neg c, if_neg c]
  unfold ksM
  rw [List.map_append]
  rfl
theorem mem_putM {α : Type} {x y : Str} {v : α} {m : TM α} : y ∈ ksM (putM x v m) ↔ y = x ∨ y ∈ ksM m := by
 rw [ks_putM]
 by_cases c : x ∈ ksM m
 ·rw [if_pos c]
  exact ⟨.inr, fun q => by rcases q with rfl | q; exact c; exact q⟩
 ·rw [if_neg c, List.mem_append, List.mem_singleton, or_comm]
theorem nd_putM {α : Type} {x : Str} {v : α} {m : TM α} (n : (ksM m).Nodup) : (ksM (putM x v m)).Nodup := by
 rw [ks_putM]
 by_cases c : x ∈ ksM m
 ·rw [if_pos c]; exact n
 ·rw [if_neg c]; exact nd_app n c
theorem len_ksM {α : Type} (m : TM α) : (ksM m).length = m.length := List.length_map _
structure InM {α : Type} (ks : List Str) (m : TM α) : Prop where
 nd : (ksM m).Nodup
 sub : ∀ x, x ∈ ksM m → x ∈ ks
theorem InM.len {α : Type} {ks : List Str} {m : TM α} (I : InM ks m) : m.length ≤ ks.length := by
 rw [← len_ksM]
 exact nd_len I.nd I.sub
theorem InM.put {α : Type} {ks : List Str} {m : TM α} (I : InM ks m) {x : Str} (hx : x ∈ ks) (v : α) : InM ks (putM x v m) := ⟨nd_putM I.nd, fun y hy => by
 rcases mem_putM.mp hy with rfl | q
 ·exact hx
 ·exact I.sub y q⟩
theorem InM.nil {α : Type} {ks : List Str} : InM ks ([] : TM α) := ⟨List.nodup_nil, fun _ h => nomatch h⟩
abbrev Row := Option (Option Int)
def rowV : Row → AV
 | none => .tup []
 | some o => .tup [vA o]
def knF (l : DL) (k : Str) : Row := if k ∈ ksL l then some (some (getI l k)) else none
abbrev SS := DL × DL
structure Rd where
 rows : TM Row
 own : TM Bool
 rep : List Str
 bears : List (Str × Nat)
 plans : List (Nat × I3 × Str × Row)
def reasonF (cl lo : Str) (s : SS) (d n : Str) (v : Option Int) : Option Str :=
 if d = "bear" then (if n ∈ ksL s.2 then some "born" else none)
 else if d ≠ "drop" ∧ v.isNone = true then some "empty"
 else if d = "make" then (if ¬ ownS n ∈ ksL s.2 then some "orphan" else if n ∈ ksL s.1 ∧ cl = "refuse" then some "clash" else none)
 else if ¬ n ∈ ksL s.1 ∧ lo = "refuse" then some "lost" else none
def dwF (cl : Str) (s : SS) (d n : Str) (v : Option Int) : SS :=
 if d = "bear" then (s.1, putL n (.bl true) s.2)
 else if d = "make" then (if ¬ n ∈ ksL s.1 ∨ cl = "take" then (putL n (.int (v.getD 0)) s.1, putL (ownS n) (.bl true) s.2) else s)
 else if n ∈ ksL s.1 then (if d = "drop" then (delL n s.1, s.2) else (putL n (.int (if d = "set" then v.getD 0 else getI s.1 n + v.getD 0)) s.1, putL (ownS n) (.bl true) s.2))
 else s
theorem hasO_ok {h : AH} {a b : Nat} {bo : DL} (hb : h[b]? = some (some (.dk (gD bo)))) {n : Str} (f : fitB n = true) : c_Store_has_owner [stV a b, .str n] h = .ok (.bl (decide (n ∈ ksL bo))) h := by
 have nm := name_fit f h
 have v := val_some (x := n) (l := bo)
 simp [c_Store_has_owner, m_Store_has_owner, b_Store_has_owner, nm, fo_st, pl_st, hb, v]
theorem pl_ref {n : Nat} : plainV (.ref n) = true := rfl
theorem ask_own {a b : Nat} {bo : DL} {me m2 : ME} {τ : AS} {h h1 h2 : AH} {n : Str} (e : me τ h = .ok (stV a b) h1) (e2 : m2 τ h1 = .ok (.str n) h2) (hb : h2[b]? = some (some (.dk (gD bo)))) (f : fitB n = true) :
  mMet 13 46 c_Store_has_owner me (mCons m2 mNil) τ h = .ok (.bl (decide (n ∈ ksL bo))) h2 := by
 rw [mMet_ev, e, bind_ok, fMet_ev, fo_st]
 simp only [show (([((42 : Nat), AV.ref a), (43, .ref b)] : List (Nat × AV)).lookup 46) = none from rfl, Option.isNone_none, and_self, if_true]
 rw [mCons_ev, e2, bind_ok, fCons_ev, mNil_ev, bind_ok, fCons2_ev, bind_ok, fMet2_ev, hasO_ok hb f]
theorem ask_row {ks : List Str} {a b : Nat} {l : DL} {me m2 : ME} {τ : AS} {h h1 h2 : AH} {n : Str} (e : me τ h = .ok (stV a b) h1) (e2 : m2 τ h1 = .ok (.str n) h2) (ha : h2[a]? = some (some (.dk (gD l)))) (il : IntL ks l) (nl : (ksL l).Nodup) (kx : keyB n = true) :
  mMet 13 45 c_Store_row me (mCons m2 mNil) τ h = .ok (rowV (knF l n)) h2 := by
 rw [mMet_ev, e, bind_ok, fMet_ev, fo_st]
 simp only [show (([((42 : Nat), AV.ref a), (43, .ref b)] : List (Nat × AV)).lookup 45) = none from rfl, Option.isNone_none, and_self, if_true]
 rw [mCons_ev, e2, bind_ok, fCons_ev, mNil_ev, bind_ok, fCons2_ev, bind_ok, fMet2_ev, row_ok ha il nl kx]
 unfold knF
 split <;> rfl
theorem dput_run {mo mi me : ME} {τ : AS} {h h1 h2 h3 : AH} {n : Nat} {x : Str} {v : AV} {l : DL} (e1 : me τ h = .ok v h1) (e2 : mo τ h1 = .ok (.ref n) h2) (e3 : mi τ h2 = .ok (.str x) h3) (hn : h3[n]? = some (some (.dk (gD l)))) (hl : l.length ≤ 100000) :
  sDPutM mo mi me τ h = .nx τ (h3.set n (some (.dk (gD (putL x v l))))) := by
 have sm : small ((gD l).length + 1) = true := small_of (by rw [len_gD]; omega)
 rw [sDPutM_ev, e1, bindS_ok, fDPut_ev, e2, bindS_ok, fDPut1_ev, e3, bindS_ok, fDPut2_ev, hn]
 simp only [show keyA (.str x) = some (.inr x) from rfl, sm, if_true, put_eq]
theorem in_dk {l : DL} {h : AH} {n : Nat} (e : h[n]? = some (some (.dk (gD l)))) (neg : Bool) (x : Str) : kInDict neg (.str x) (.ref n) h = some (.bl (if neg then !decide (x ∈ ksL l) else decide (x ∈ ksL l)), h) := by
 unfold kInDict dctA
 simp only [e, Option.bind_some, show keyA (.str x) = some (.inr x) from rfl, Option.map_some, val_some]
theorem kEq_s (x y : Str) (h : AH) : kEq (.str x) (.str y) h = some (.bl (decide (x = y)), h) := kEq_str _ _ _
theorem it_fl {i : Nat} {vs : List AV} {τ : AS} {h : AH} (e : τ[i]? = some (some (.fl vs))) : (mIt PI.itL (mVar i)) τ h = .ok vs h := by
 rw [mIt_ev, var_ok (v := .fl vs) e rfl, bind_ok]
 rfl
section
variable {m1 m2 m3 m4 m5 : ME} {v1 v2 v3 v4 v5 : AV} {τ : AS} {h : AH}
theorem as1 (e1 : m1 τ h = .ok v1 h) : (mCons m1 mNil) τ h = .ok [v1] h := by rw [mCons_ev, e1, bind_ok, fCons_ev, mNil_ev, bind_ok, fCons2_ev]
theorem asC {ma : MA} {vs : List AV} (e1 : m1 τ h = .ok v1 h) (e2 : ma τ h = .ok vs h) : (mCons m1 ma) τ h = .ok (v1 :: vs) h := by rw [mCons_ev, e1, bind_ok, fCons_ev, e2, bind_ok, fCons2_ev]
theorem not_b {c : MT} {b : Bool} (e : c τ h = .ok b h) : mTNot c τ h = .ok (!b) h := by
 cases b with
 | true => exact not_t e
 | false => exact not_f e
end
section
variable {h : AH} {n : Nat} {m0 : TM Row} {st : Rd}
end
structure Ch (n : Nat) (h h' : AH) : Prop where
 len : h'.length = h.length
 keep : ∀ j, j < n ∨ n + 6 ≤ j → h'[j]? = h[j]?
theorem Ch.refl {n : Nat} {h : AH} : Ch n h h := ⟨rfl, fun _ _ => rfl⟩
theorem Ch.trans {n : Nat} {h h1 h2 : AH} (a : Ch n h h1) (b : Ch n h1 h2) : Ch n h h2 := ⟨b.len.trans a.len, fun j hj => (b.keep j hj).trans (a.keep j hj)⟩
theorem Ch.set {n k : Nat} {h h1 : AH} {o : Option AO} (a : Ch n h h1) (h1' : n ≤ k) (h2' : k < n + 6) : Ch n h (h1.set k o) := ⟨by rw [List.length_set]; exact a.len, fun j hj => by rw [gsn (by omega)]; exact a.keep j hj⟩
theorem pl_row {w : Row} : plainV (rowV w) = true := by cases w <;> rfl
theorem pl_vA {o : Option Int} : plainV (vA o) = true := by cases o <;> rfl
theorem row_len1 {w : Row} {me : ME} {τ : AS} {h : AH} (e : me τ h = .ok (rowV w) h) : (mBin kEq (mL kLen (mCons me mNil)) (mC (.int 1))) τ h = .ok (.bl w.isSome) h := by
 have k1 : mL kLen (mCons me mNil) τ h = .ok (.int (if w.isSome then 1 else 0)) h := l1_ok e (by cases w <;> rfl)
 refine bin2 (v2 := .int 1) k1 c_ok ?_
 cases w <;> rfl
def osA : Option Str → AV
 | none => .non
 | some x => .str x
theorem met_ok {kc mi : Nat} {f : FN} {mo : ME} {ma : MA} {τ : AS} {h h1 h2 : AH} {v : AV} {vs : List AV} {fs : List (Nat × AV)} {R : Res AV} (e : mo τ h = .ok v h1) (fo : fldsOf v h1 = some (kc, fs)) (lk : fs.lookup mi = none) (ea : ma τ h1 = .ok vs h2) (ef : f (v :: vs) h2 = R) : mMet kc mi f mo ma τ h = R := by
 rw [mMet_ev, e, bind_ok, fMet_ev, fo]
 simp only [lk, Option.isNone_none, and_self, if_true]
 rw [ea, bind_ok, fMet2_ev, ef]
theorem fset_run {ks : List Nat} {f n k : Nat} {mo me : ME} {τ : AS} {h h1 h2 : AH} {v : AV} {fs : List (Nat × AV)} (e1 : me τ h = .ok v h1) (e2 : mo τ h1 = .ok (.ref n) h2) (hn : h2[n]? = some (some (.ins k fs))) (hk : ks.contains k = true) (hf : fs.length ≤ 900) : sFldSet ks f mo me τ h = .nx τ (h2.set n (some (.ins k (aput f v fs)))) := by
 rw [sFldSet_ev, e1, bindS_ok, fFldSet_ev, e2, bindS_ok, fFldSet1_ev, hn]
 simp only
 rw [if_pos (by rw [hk, few_of hf]; rfl)]
theorem fadd_run {ks : List Nat} {f n k : Nat} {mo me : ME} {τ : AS} {h : AH} {i j : Int} {fs : List (Nat × AV)} (e2 : mo τ h = .ok (.ref n) h) (hn : h[n]? = some (some (.ins k fs))) (l : fs.lookup f = some (.int i)) (hk : ks.contains k = true) (hf : fs.length ≤ 900) (e1 : me τ h = .ok (.int j) h) : sFldAdd ks f mo me τ h = .nx τ (h.set n (some (.ins k (aput f (.int (i + j)) fs)))) := by
 unfold sFldAdd
 rw [e2, bindS_ok]
 simp only [hn, l, hk, if_true]
 rw [e1, bindS_ok]
 simp only [hn, few_of hf, decide_true, Bool.and_self, if_true]
theorem pl_os {o : Option Str} : plainV (osA o) = true := by cases o <;> rfl
structure NmOk (ks : List Str) (d n : Str) : Prop where
 b : d = "bear" → n ∈ ks.map ownS
 k : d ≠ "bear" → n ∈ ks
theorem own_fits {ks : List Str} (hk : ∀ k, k ∈ ks → keyB k = true) {n : Str} (h : n ∈ ks.map ownS) : fitB n = true := by
 obtain ⟨k, hk', rfl⟩ := List.mem_map.mp h
 exact own_fit (hk k hk')
theorem reason_ok {ks : List Str} {h : AH} {a b : Nat} {l bo : DL} (hk : ∀ k, k ∈ ks → keyB k = true) (S : Sw ks h a b l bo) {cl lo d n : Str} {v : Option Int} (N : NmOk ks d n) :
  c_reason_of [stV a b, .tup [.str d, .str n, vA v], .str cl, .str lo] h = .ok (osA (reasonF cl lo (l, bo) d n v)) h := by
 let υ : AS := [some (stV a b), some (.tup [.str d, .str n, vA v]), some (.str cl), some (.str lo), none, none, none, none]
 let τ (x : Option AV) : AS := [some (stV a b), some (.tup [.str d, .str n, vA v]), some (.str cl), some (.str lo), x, some (.str d), some (.str n), some (vA v)]
 have s1 : sAsg (gT 3 (gsCons (gN 5) (gsCons (gN 6) (gsCons (gN 7) gsNil)))) (mVar 1) υ h = .nx (τ none) h := by
  rw [sAsg_ev, var_ok (v := .tup [.str d, .str n, vA v]) rfl rfl, bindS_ok, fAsg_ev]
  rfl
 have q5 : ∀ x (y : Str), (mB (mBin kEq (mVar 5) (mC (.str y)))) (τ x) h = .ok (decide (d = y)) h := fun x y => tb_ok (bin2 (v1 := .str d) (v2 := .str y) (var_ok rfl rfl) c_ok (kEq_s _ _ h))
 have n5 : ∀ x (y : Str), (mB (mBin kNe (mVar 5) (mC (.str y)))) (τ x) h = .ok (!decide (d = y)) h := fun x y => tb_ok (bin2 (v1 := .str d) (v2 := .str y) (var_ok rfl rfl) c_ok (by rw [kNe_str]))
 have q2 : ∀ x (y : Str), (mB (mBin kEq (mVar 2) (mC (.str y)))) (τ x) h = .ok (decide (cl = y)) h := fun x y => tb_ok (bin2 (v1 := .str cl) (v2 := .str y) (var_ok rfl rfl) c_ok (kEq_s _ _ h))
 have q3 : ∀ x (y : Str), (mB (mBin kEq (mVar 3) (mC (.str y)))) (τ x) h = .ok (decide (lo = y)) h := fun x y => tb_ok (bin2 (v1 := .str lo) (v2 := .str y) (var_ok rfl rfl) c_ok (kEq_s _ _ h))
 have v0 : ∀ x, (mVar 0) (τ x) h = .ok (stV a b) h := fun x => var_ok rfl pl_st
 have v6 : ∀ x, (mVar 6) (τ x) h = .ok (.str n) h := fun x => var_ok rfl rfl
 have isN : (mB (mBin kIsN (mVar 7) (mC .non))) (τ none) h = .ok v.isNone h := tb_ok (bin2 (v1 := vA v) (var_ok rfl pl_vA) c_ok (by cases v <;> rfl))
 show SRes.fin (b_reason_of υ h) = _
 unfold b_reason_of reasonF
 simp only
 rw [sSeq_ev, s1, thn_nx]
 by_cases c1 : d = "bear"
 ·have q := q5 none "bear"
  rw [decide_eq_true c1] at q
  have ho : (mB (mMet 13 46 c_Store_has_owner (mVar 0) (mCons (mVar 6) mNil))) (τ none) h = .ok (decide (n ∈ ksL bo)) h := tb_ok (ask_own (v0 none) (v6 none) S.hb (own_fits hk (N.b c1)))
  rw [sSeq_ev, sIf_ev, q, bindS_ok, fIf_t, sRet_ev, mIf_ev, ho, bind_ok, if_pos c1]
  by_cases c2 : n ∈ ksL bo
  ·rw [decide_eq_true c2, if_pos c2]; rfl
  ·rw [decide_eq_false c2, if_neg c2]; rfl
 ·have q := q5 none "bear"
  rw [decide_eq_false c1] at q
  have kn := N.k c1
  rw [sSeq_ev, if_skip q, thn_nx, if_neg c1]
  have c := and_b (n5 none "drop") isN
  by_cases c2 : d ≠ "drop" ∧ v.isNone = true
  ·rw [decide_eq_false c2.1, c2.2] at c
   rw [sSeq_ev, sIf_ev, c, bindS_ok, if_pos c2]
   rfl
  ·have c' : (!decide (d = "drop") && v.isNone) = false := by
    rw [Bool.eq_false_iff]
    intro t
    rw [Bool.and_eq_true, Bool.not_eq_true'] at t
    exact c2 ⟨of_decide_eq_false t.1, t.2⟩
   rw [c'] at c
   rw [sSeq_ev, if_skip c, thn_nx, if_neg c2]
   let th : Bool := decide (n ∈ ksL l)
   have s4 : sSet 4 (mBin kEq (mL kLen (mCons (mMet 13 45 c_Store_row (mVar 0) (mCons (mVar 6) mNil)) mNil)) (mC (.int 1))) (τ none) h = .nx (τ (some (.bl th))) h := by
    rw [sSet_ev, row_len1 (ask_row (v0 none) (v6 none) S.ha S.il S.nl (hk n kn))]
    have : (knF l n).isSome = th := by
     unfold knF
     by_cases z : n ∈ ksL l
     ·rw [if_pos z]; exact (decide_eq_true z).symm
     ·rw [if_neg z]; exact (decide_eq_false z).symm
    rw [this]
    rfl
   have v4 : (mB (mVar 4)) (τ (some (.bl th))) h = .ok th h := tb_ok (var_ok rfl rfl)
   rw [sSeq_ev, s4, thn_nx]
   by_cases c3 : d = "make"
   ·have q := q5 (some (.bl th)) "make"
    rw [decide_eq_true c3] at q
    have ho : (mB (mMet 13 46 c_Store_has_owner (mVar 0) (mCons (mCall c_owner_of (mCons (mVar 6) mNil)) mNil))) (τ (some (.bl th))) h = .ok (decide (ownS n ∈ ksL bo)) h := tb_ok (ask_own (v0 _) (cl1 (v6 _) (owner_of_ok (hk n kn) h)) S.hb (own_fit (hk n kn)))
    have no := not_b ho
    have cc := and_b v4 (q2 (some (.bl th)) "refuse")
    rw [sSeq_ev, sIf_ev, q, bindS_ok, fIf_t, if_pos c3]
    by_cases c4 : ownS n ∈ ksL bo
    ·rw [decide_eq_true c4] at no
     rw [sSeq_ev, if_skip no, thn_nx, sRet_ev, mIf_ev, cc, bind_ok, if_neg (fun z => z c4)]
     by_cases c5 : n ∈ ksL l ∧ cl = "refuse"
     ·rw [show th = true from decide_eq_true c5.1, decide_eq_true c5.2, if_pos c5]; rfl
     ·have : (th && decide (cl = "refuse")) = false := by
       rw [Bool.eq_false_iff]
       intro t
       rw [Bool.and_eq_true] at t
       exact c5 ⟨of_decide_eq_true t.1, of_decide_eq_true t.2⟩
      rw [this, if_neg c5]; rfl
    ·rw [decide_eq_false c4] at no
     rw [sSeq_ev, sIf_ev, no, bindS_ok, if_pos c4]
     rfl
   ·have q := q5 (some (.bl th)) "make"
    rw [decide_eq_false c3] at q
    have cc := and_b (not_b v4) (q3 (some (.bl th)) "refuse")
    rw [sSeq_ev, if_skip q, thn_nx, sRet_ev, mIf_ev, cc, bind_ok, if_neg c3]
    by_cases c5 : ¬ n ∈ ksL l ∧ lo = "refuse"
    ·rw [show th = false from decide_eq_false c5.1, decide_eq_true c5.2, if_pos c5]; rfl
    ·have : (!th && decide (lo = "refuse")) = false := by
      rw [Bool.eq_false_iff]
      intro t
      rw [Bool.and_eq_true, Bool.not_eq_true'] at t
      exact c5 ⟨of_decide_eq_false t.1, of_decide_eq_true t.2⟩
     rw [this, if_neg c5]; rfl
theorem reason_val {cl lo : Str} {s : SS} {d n : Str} {v : Option Int} (e : reasonF cl lo s d n v = none) (c1 : d ≠ "bear") (c2 : d ≠ "drop") : ∃ i, v = some i := by
 unfold reasonF at e
 rw [if_neg c1] at e
 cases v with
 | some i => exact ⟨i, rfl⟩
 | none =>
  rw [if_pos ⟨c2, rfl⟩] at e
  cases e
structure Qw (ks : List Str) (l bo : DL) : Prop extends Pw ks l bo where
 ob : ∀ x, x ∈ ksL bo → x ∈ ks.map ownS
theorem Qw.len {ks : List Str} {l bo : DL} (Q : Qw ks l bo) : l.length ≤ ks.length ∧ bo.length ≤ ks.length := by
 constructor
 ·have := nd_len Q.nl (fun x hx => by
   obtain ⟨p, hp, rfl⟩ := List.mem_map.mp hx
   exact (Q.il p hp).1)
  unfold ksL at this
  rw [List.length_map] at this
  exact this
 ·have := nd_len Q.nb Q.ob
  unfold ksL at this
  rw [List.length_map, List.length_map] at this
  exact this
theorem Qw.put {ks : List Str} (hk : ∀ k, k ∈ ks → keyB k = true) {l bo : DL} (Q : Qw ks l bo) {x : Str} (hx : x ∈ ks) {i : Int} : Qw ks (putL x (.int i) l) (putL (ownS x) (.bl true) bo) := ⟨pw_put hk Q.toPw hx, fun y hy => by
 rcases mem_ksput.mp hy with rfl | hy
 ·exact List.mem_map_of_mem hx
 ·exact Q.ob y hy⟩
theorem Qw.del {ks : List Str} {l bo : DL} (Q : Qw ks l bo) (x : Str) : Qw ks (delL x l) bo := ⟨pw_del Q.toPw x, Q.ob⟩
theorem Qw.bear {ks : List Str} (hk : ∀ k, k ∈ ks → keyB k = true) {l bo : DL} (Q : Qw ks l bo) {x : Str} (hx : x ∈ ks.map ownS) : Qw ks l (putL x (.bl true) bo) := ⟨⟨Q.il, tru_put Q.tb, Q.nl, nd_put Q.nb, fun y hy => by
 rcases mem_ksput.mp hy with rfl | hy
 ·exact own_fits hk hx
 ·exact Q.fb y hy, fun y hy => mem_ksput.mpr (.inr (Q.ow y hy))⟩, fun y hy => by
 rcases mem_ksput.mp hy with rfl | hy
 ·exact hx
 ·exact Q.ob y hy⟩
theorem qw_dw {ks : List Str} (hk : ∀ k, k ∈ ks → keyB k = true) {cl : Str} {s : SS} {d n : Str} {v : Option Int} (Q : Qw ks s.1 s.2) (N : NmOk ks d n) : Qw ks (dwF cl s d n v).1 (dwF cl s d n v).2 := by
 unfold dwF
 by_cases c1 : d = "bear"
 ·rw [if_pos c1]; exact Q.bear hk (N.b c1)
 ·rw [if_neg c1]
  by_cases c3 : d = "make"
  ·rw [if_pos c3]
   split
   ·exact Q.put hk (N.k c1)
   ·exact Q
  ·rw [if_neg c3]
   split
   ·split
    ·exact Q.del n
    ·exact Q.put hk (N.k c1)
   ·exact Q
theorem row_any {ks : List Str} {h : AH} {a b : Nat} {l : DL} (ha : h[a]? = some (some (.dk (gD l)))) (il : IntL ks l) (nl : (ksL l).Nodup) {x : Str} (tx : txB x = true) :
  c_Store_row [stV a b, .str x] h = .ok (rowV (if keyB x = true then knF l x else none)) h := by
 have ik := is_key_ok (v := .str x) tx h
 unfold knF
 by_cases kx : keyB x = true
 ·rw [if_pos kx, row_ok ha il nl kx]
  split <;> rfl
 ·have kx' : keyB x = false := Bool.eq_false_iff.mpr kx
  rw [show isKeyB (.str x) = false from kx'] at ik
  rw [if_neg kx]
  simp [c_Store_row, m_Store_row, b_Store_row, ik, rowV]
theorem bear_ok {h : AH} {a b : Nat} {bo : DL} (hb : h[b]? = some (some (.dk (gD bo)))) (lb : bo.length ≤ 1000) {n : Str} (f : fitB n = true) :
  c_Store_bear [stV a b, .str n] h = .ok (.bl (!decide (n ∈ ksL bo))) (h.set b (some (.dk (gD (putL n (.bl true) bo))))) := by
 have nm : ∀ g, c_is_name [.str n] g = .ok (.bl true) g := fun g => name_fit f g
 let τ (x : Option AV) : AS := [some (stV a b), some (.str n), x]
 have f43 : ∀ x g, (mFld [12, 13] 43 (mVar 0)) (τ x) g = .ok (.ref b) g := fun x g => by
  rw [mFld_ev, var_ok (v := stV a b) rfl pl_st, bind_ok]
  unfold fFld
  rw [fo_st]
  rfl
 show SRes.fin (b_Store_bear (τ none) h) = _
 unfold b_Store_bear
 rw [sSeq_ev, if_skip (not_t (tb_ok (cl1 (v1 := .str n) (var_ok rfl rfl) (nm h)))), thn_nx, sSeq_ev, sSet_ev, bin2 (v1 := .str n) (v2 := .ref b) (var_ok rfl rfl) (f43 none h) (in_dk hb true n)]
 show SRes.fin (((SRes.nx (τ (some (.bl (!decide (n ∈ ksL bo))))) h).thn _)) = _
 rw [thn_nx, sSeq_ev, dput_run (v := .bl true) c_ok (f43 _ h) (x := n) (var_ok rfl rfl) hb (by omega), thn_nx, sRet_ev, var_ok (v := .bl (!decide (n ∈ ksL bo))) rfl rfl]
 rfl
theorem dw_ok {ks : List Str} {h : AH} {a b : Nat} {l bo : DL} (hk : ∀ k, k ∈ ks → keyB k = true) (S : Sw ks h a b l bo) (ll : l.length ≤ 1000) (lb : bo.length ≤ 1000) {cl lo d n : Str} {v : Option Int} (N : NmOk ks d n) (e : reasonF cl lo (l, bo) d n v = none) :
  ∃ h', c_do_write [stV a b, .tup [.str d, .str n, vA v], .str cl] h = .ok .non h' ∧ h'[a]? = some (some (.dk (gD (dwF cl (l, bo) d n v).1))) ∧ h'[b]? = some (some (.dk (gD (dwF cl (l, bo) d n v).2))) ∧ (∀ j, j ≠ a → j ≠ b → h'[j]? = h[j]?) ∧ h'.length = h.length := by
 let υ : AS := [some (stV a b), some (.tup [.str d, .str n, vA v]), some (.str cl), none, none, none, none]
 let τ (x : Option AV) : AS := [some (stV a b), some (.tup [.str d, .str n, vA v]), some (.str cl), x, some (.str d), some (.str n), some (vA v)]
 have s1 : sAsg (gT 3 (gsCons (gN 4) (gsCons (gN 5) (gsCons (gN 6) gsNil)))) (mVar 1) υ h = .nx (τ none) h := by
  rw [sAsg_ev, var_ok (v := .tup [.str d, .str n, vA v]) rfl rfl, bindS_ok, fAsg_ev]
  rfl
 have tn : txB n = true := by
  by_cases c1 : d = "bear"
  ·exact fit_tx (own_fits hk (N.b c1))
  ·exact key_tx (hk n (N.k c1))
 let w : Row := if keyB n = true then knF l n else none
 have v0 : ∀ x g, (mVar 0) (τ x) g = .ok (stV a b) g := fun x g => var_ok rfl pl_st
 have v5 : ∀ x g, (mVar 5) (τ x) g = .ok (.str n) g := fun x g => var_ok rfl rfl
 have v6 : ∀ x g, (mVar 6) (τ x) g = .ok (vA v) g := fun x g => var_ok rfl pl_vA
 have s2 : sSet 3 (mMet 13 45 c_Store_row (mVar 0) (mCons (mVar 5) mNil)) (τ none) h = .nx (τ (some (rowV w))) h := by
  rw [sSet_ev, met_ok (v0 none h) (fo_st h) rfl (as1 (v5 none h)) (row_any S.ha S.il S.nl tn)]
  rfl
 have q4 : ∀ (y : Str), (mB (mBin kEq (mVar 4) (mC (.str y)))) (τ (some (rowV w))) h = .ok (decide (d = y)) h := fun y => tb_ok (bin2 (v1 := .str d) (v2 := .str y) (var_ok rfl rfl) c_ok (kEq_s _ _ h))
 have q2 : (mB (mBin kEq (mVar 2) (mC (.str "take")))) (τ (some (rowV w))) h = .ok (decide (cl = "take")) h := tb_ok (bin2 (v1 := .str cl) (v2 := .str "take") (var_ok rfl rfl) c_ok (kEq_s _ _ h))
 have l0 : (mB (mBin kEq (mL kLen (mCons (mVar 3) mNil)) (mC (.int 0)))) (τ (some (rowV w))) h = .ok (!w.isSome) h := by
  have k1 : mL kLen (mCons (mVar 3) mNil) (τ (some (rowV w))) h = .ok (.int (if w.isSome then 1 else 0)) h := l1_ok (v1 := rowV w) (var_ok rfl pl_row) (by cases w <;> rfl)
  refine tb_ok (bin2 (v2 := .int 0) k1 c_ok ?_)
  cases w <;> rfl
 have l1 : (mB (mBin kEq (mL kLen (mCons (mVar 3) mNil)) (mC (.int 1)))) (τ (some (rowV w))) h = .ok w.isSome h := tb_ok (row_len1 (var_ok rfl pl_row))
 have la := at_lt S.ha
 have lb' := at_lt S.hb
 have atb : ∀ (x y : AO), ((h.set a (some x)).set b (some y))[a]? = some (some x) ∧ ((h.set a (some x)).set b (some y))[b]? = some (some y) := fun x y => ⟨by rw [gsn (Ne.symm S.ab), List.getElem?_set_self la], by rw [List.getElem?_set_self (by simpa using lb')]⟩
 have frm : ∀ (x y : AO), (∀ j, j ≠ a → j ≠ b → ((h.set a (some x)).set b (some y))[j]? = h[j]?) ∧ ((h.set a (some x)).set b (some y)).length = h.length := fun x y => ⟨fun j ja jb => by rw [gsn (Ne.symm jb), gsn (Ne.symm ja)], by simp⟩
 have put : ∀ (m : ME) (i : Int), n ∈ ks → m (τ (some (rowV w))) h = .ok (.int i) h → sExpr (mMet 13 50 c_Store_put (mVar 0) (mCons (mVar 5) (mCons m mNil))) (τ (some (rowV w))) h = .nx (τ (some (rowV w))) ((h.set a (some (.dk (gD (putL n (.int i) l))))).set b (some (.dk (gD (putL (ownS n) (.bl true) bo))))) := fun m i kn em => by
  rw [sExpr_ev, met_ok (v0 _ h) (fo_st h) rfl (asC (v5 _ h) (as1 em)) (put_ok hk S.ha S.hb ll lb S.ab kn (i := i))]
  rfl
 have r0 : c_do_write [stV a b, .tup [.str d, .str n, vA v], .str cl] h = SRes.fin (b_do_write υ h) := rfl
 rw [r0]
 unfold b_do_write dwF
 simp only
 rw [sSeq_ev, s1, thn_nx, sSeq_ev, s2, thn_nx, sIf_ev, q4 "bear", bindS_ok]
 by_cases c1 : d = "bear"
 ·refine ⟨h.set b (some (.dk (gD (putL n (.bl true) bo)))), ?_, ?_, ?_, fun j ja jb => by rw [gsn (Ne.symm jb)], by simp⟩
  ·rw [decide_eq_true c1, fIf_t, sExpr_ev, met_ok (v0 _ h) (fo_st h) rfl (as1 (v5 _ h)) (bear_ok S.hb lb (own_fits hk (N.b c1)))]
   rfl
  ·rw [if_pos c1, gsn (Ne.symm S.ab)]; exact S.ha
  ·rw [if_pos c1, List.getElem?_set_self lb']
 ·have kn := N.k c1
  have hw : w = knF l n := by simp only [w]; rw [if_pos (hk n kn)]
  rw [decide_eq_false c1, fIf_f, sIf_ev, q4 "make", bindS_ok]
  simp only [if_neg c1]
  have hws : w.isSome = decide (n ∈ ksL l) := by
   rw [hw]
   unfold knF
   by_cases z : n ∈ ksL l
   ·rw [if_pos z]; exact (decide_eq_true z).symm
   ·rw [if_neg z]; exact (decide_eq_false z).symm
  by_cases c3 : d = "make"
  ·obtain ⟨i, rfl⟩ := reason_val e c1 (by rw [c3]; decide +kernel)
   rw [decide_eq_true c3, fIf_t, sIf_ev, or_b l0 q2, bindS_ok]
   simp only [if_pos c3, Option.getD_some]
   by_cases c4 : ¬ n ∈ ksL l ∨ cl = "take"
   ·have : (!w.isSome || decide (cl = "take")) = true := by
     rw [hws, Bool.or_eq_true]
     rcases c4 with z | z
     ·left; rw [decide_eq_false z]; rfl
     ·right; exact decide_eq_true z
    refine ⟨(h.set a (some (.dk (gD (putL n (.int i) l))))).set b (some (.dk (gD (putL (ownS n) (.bl true) bo)))), ?_, by rw [if_pos c4]; exact (atb _ _).1, by rw [if_pos c4]; exact (atb _ _).2, (frm _ _).1, (frm _ _).2⟩
    rw [this, fIf_t, put (mVar 6) i kn (v6 _ h)]
    rfl
   ·have : (!w.isSome || decide (cl = "take")) = false := by
     rw [hws, Bool.eq_false_iff]
     intro t
     rcases Bool.or_eq_true_iff.mp t with z | z
     ·exact c4 (.inl (of_decide_eq_false (by rw [Bool.not_eq_true'] at z; exact z)))
     ·exact c4 (.inr (of_decide_eq_true z))
    refine ⟨h, ?_, by rw [if_neg c4]; exact S.ha, by rw [if_neg c4]; exact S.hb, fun _ _ _ => rfl, rfl⟩
    rw [this]
    rfl
  ·rw [decide_eq_false c3, fIf_f, sIf_ev, l1, bindS_ok, hws]
   simp only [if_neg c3]
   by_cases c4 : n ∈ ksL l
   ·rw [decide_eq_true c4, fIf_t, sIf_ev, q4 "drop", bindS_ok]
    simp only [if_pos c4]
    by_cases c5 : d = "drop"
    ·refine ⟨h.set a (some (.dk (gD (delL n l)))), ?_, by rw [if_pos c5]; rw [List.getElem?_set_self la], by rw [if_pos c5, gsn S.ab]; exact S.hb, fun j ja _ => by rw [gsn (Ne.symm ja)], by simp⟩
     rw [decide_eq_true c5, fIf_t, sExpr_ev, met_ok (v0 _ h) (fo_st h) rfl (as1 (v5 _ h)) (drop_ok (b := b) S.ha S.il S.nl (hk n kn) c4)]
     rfl
    ·obtain ⟨i, rfl⟩ := reason_val e c1 c5
     simp only [if_neg c5, Option.getD_some]
     rw [decide_eq_false c5, fIf_f]
     have hw1 : w = some (some (getI l n)) := by rw [hw]; unfold knF; rw [if_pos c4]
     have em : (mIf (mB (mBin kEq (mVar 4) (mC (.str "set")))) (mVar 6) (mBin kAdd (mBin kIx (mVar 3) (mC (.int 0))) (mVar 6))) (τ (some (rowV w))) h = .ok (.int (if d = "set" then i else getI l n + i)) h := by
      rw [mIf_ev, q4 "set", bind_ok]
      by_cases c6 : d = "set"
      ·rw [decide_eq_true c6, if_pos c6]
       exact v6 (some (rowV w)) h
      ·rw [decide_eq_false c6, if_neg c6]
       exact bin2 (v1 := .int (getI l n)) (v2 := .int i) (bin2 (v1 := .tup [.int (getI l n)]) (v2 := .int 0) (var_ok (by show some (some (rowV w)) = _; rw [hw1]; rfl) rfl) c_ok rfl) (v6 (some (rowV w)) h) rfl
     refine ⟨(h.set a (some (.dk (gD (putL n (.int (if d = "set" then i else getI l n + i)) l))))).set b (some (.dk (gD (putL (ownS n) (.bl true) bo)))), ?_, (atb _ _).1, (atb _ _).2, (frm _ _).1, (frm _ _).2⟩
     rw [put _ _ kn em]
     rfl
   ·refine ⟨h, ?_, by rw [if_neg c4]; exact S.ha, by rw [if_neg c4]; exact S.hb, fun _ _ _ => rfl, rfl⟩
    rw [decide_eq_false c4]
    rfl
def btF (sv : AV) (cl lo : Str) (t : Int) (r1 r2 : Nat) : List (Nat × AV) := [((54 : Nat), sv), (35, .str cl), (36, .str lo), (55, .int t), (56, .ref r1), (57, .ref r2)]
def BtAt (h : AH) (n : Nat) (sv : AV) (cl lo : Str) : Prop := ∃ t r1 r2, h[n]? = some (some (.ins 14 (btF sv cl lo t r1 r2)))
theorem fo_ins {h : AH} {n k : Nat} {fs : List (Nat × AV)} (e : h[n]? = some (some (.ins k fs))) : fldsOf (.ref n) h = some (k, fs) := by simp only [fldsOf, e]
theorem fld_ins {i : Nat} {ks : List Nat} {k n f : Nat} {fs : List (Nat × AV)} {v : AV} {τ : AS} {h : AH} (en : h[n]? = some (some (.ins k fs))) (e : τ[i]? = some (some (.ref n))) (hk : ks.contains k = true) (l : fs.lookup f = some v) : mFld ks f (mVar i) τ h = .ok v h := by
 rw [mFld_ev, var_ok e pl_ref, bind_ok]
 unfold fFld
 rw [fo_ins en]
 simp only [hk, if_true, l]
theorem refusal_ok {ks : List Str} {h : AH} {a b bt : Nat} {l bo : DL} (hk : ∀ k, k ∈ ks → keyB k = true) (S : Sw ks h a b l bo) {cl lo d n : Str} {v : Option Int} (N : NmOk ks d n) (T : BtAt h bt (stV a b) cl lo) :
  c_Batch_refusal [.ref bt, .str d, .str n, vA v] h = .ok (osA (reasonF cl lo (l, bo) d n v)) h := by
 obtain ⟨t, r1, r2, eb⟩ := T
 let τ : AS := [some (.ref bt), some (.str d), some (.str n), some (vA v)]
 show SRes.fin (b_Batch_refusal τ h) = _
 unfold b_Batch_refusal
 have t3 : mL kTup (mCons (mVar 1) (mCons (mVar 2) (mCons (mVar 3) mNil))) τ h = .ok (.tup [.str d, .str n, vA v]) h := by
  rw [mL_ev, asC (v1 := .str d) (var_ok rfl rfl) (asC (v1 := .str n) (var_ok rfl rfl) (as1 (v1 := vA v) (var_ok rfl pl_vA))), bind_ok]
  rfl
 rw [sRet_ev, call_ev, asC (fld_ins (v := stV a b) eb rfl rfl rfl) (asC t3 (asC (fld_ins (v := .str cl) eb rfl rfl rfl) (as1 (fld_ins (v := .str lo) eb rfl rfl rfl)))), bind_ok, reason_ok hk S N]
 rfl
def rv (l : DL) (x : Str) : Option Int := match getM l x with
 | some (.int i) => some i
 | _ => none
theorem val_getM (x : Str) (l : DL) : valA (gD l) (.inr x) = getM l x := by
 have h := val_tD (fun v : AV => v) x l
 have e : tD (fun v : AV => v) l = l := by unfold tD; simp
 rw [e] at h
 rw [h]
 cases getM l x <;> rfl
theorem rv_in {ks : List Str} {l : DL} (il : IntL ks l) (nl : (ksL l).Nodup) {x : Str} (h : x ∈ ksL l) : rv l x = some (getI l x) := by
 have e := getI_ok il nl h
 rw [val_getM] at e
 unfold rv
 rw [e]
theorem rv_out {l : DL} {x : Str} (h : ¬ x ∈ ksL l) : rv l x = none := by
 have e := val_none h
 rw [val_getM] at e
 unfold rv
 rw [e]
theorem rv_iff {ks : List Str} {l : DL} (il : IntL ks l) (nl : (ksL l).Nodup) (x : Str) : x ∈ ksL l ↔ rv l x ≠ none := by
 by_cases h : x ∈ ksL l
 ·rw [rv_in il nl h]; simp [h]
 ·rw [rv_out h]; simp [h]
structure EqV (v w : SS) : Prop where
 r : ∀ k, rv v.1 k = rv w.1 k
 o : ∀ x, x ∈ ksL v.2 ↔ x ∈ ksL w.2
theorem EqV.symm {v w : SS} (e : EqV v w) : EqV w v := ⟨fun k => (e.r k).symm, fun x => (e.o x).symm⟩
theorem EqV.trans {u v w : SS} (e : EqV u v) (f : EqV v w) : EqV u w := ⟨fun k => (e.r k).trans (f.r k), fun x => (e.o x).trans (f.o x)⟩
theorem EqV.mem {ks : List Str} {v w : SS} (P : Qw ks v.1 v.2) (Q : Qw ks w.1 w.2) (e : EqV v w) (k : Str) : k ∈ ksL v.1 ↔ k ∈ ksL w.1 := by
 rw [rv_iff P.il P.nl, rv_iff Q.il Q.nl, e.r]
theorem EqV.getI {ks : List Str} {v w : SS} (P : Qw ks v.1 v.2) (Q : Qw ks w.1 w.2) (e : EqV v w) {k : Str} (h : k ∈ ksL v.1) : getI v.1 k = getI w.1 k := by
 have a := rv_in P.il P.nl h
 have b := rv_in Q.il Q.nl ((e.mem P Q k).mp h)
 have c := e.r k
 rw [a, b] at c
 exact Option.some.inj c
theorem sort_same {a b : List Str} (na : a.Nodup) (nb : b.Nodup) (h : ∀ x, x ∈ a ↔ x ∈ b) : sortA a = sortA b := sortA_congr ((List.perm_ext_iff_of_nodup na nb).mpr h)
theorem EqV.own {ks : List Str} {v w : SS} (P : Qw ks v.1 v.2) (Q : Qw ks w.1 w.2) (e : EqV v w) : sortA (ksL v.2) = sortA (ksL w.2) := sort_same P.nb Q.nb e.o
theorem map_lc {α : Type} {i : Nat} {me : ME} {τ : AS} {h : AH} (enc : α → AV) (f : α → AV) (hi : τ[i]? = some none) : ∀ (xs : List α) (acc : List AV), (∀ x ∈ xs, me (τ.set i (some (enc x))) h = .ok (f x) h) → acc.length + xs.length ≤ 10000 →
  lcL (gE i) mYes me τ (xs.map enc) acc h = .ok (.fl (acc ++ xs.map f)) h
 | [], acc, _, _ => by simp [lcL]
 | x :: t, acc, H, hl => by
  have g1 : gE i (enc x) τ = some (τ.set i (some (enc x))) := by unfold gE; rw [hi]
  have sm : small (acc.length + 1) = true := small_of (by simp at hl ⊢; omega)
  have ih := map_lc enc f hi t (acc ++ [f x]) (fun y hy => H y (by simp [hy])) (by simp at hl ⊢; omega)
  rw [List.map_cons, lcL, g1]
  simp only [mYes_ev, noX, Res.bind, if_true, H x (by simp), sm]
  rw [ih]
  simp
theorem own_ixk {k : Str} {i : Nat} {τ : AS} {h : AH} (kk : keyB k = true) (e : τ[i]? = some (some (.str k))) : (mBin kIx (mM1 kPart (mVar i) (mC (.str "/"))) (mC (.int 0))) τ h = .ok (.str (ownS k)) h := by
 have p := part_ix (key_tx kk) h
 have m1 : (mM1 kPart (mVar i) (mC (.str "/"))) τ h = (.of (kPart k (.str "/") h) : Res AV) := by
  rw [mM1_ev, var_ok (v := .str k) e rfl, bind_ok]
  rfl
 rw [show ∀ (m1 m2 : ME) (τ : AS) (h : AH), mBin kIx m1 m2 τ h = (m1 τ h).bind (fBin kIx m2 τ) from fun _ _ _ _ => rfl, m1]
 cases q : kPart k (.str "/") h with
 | none => rw [q] at p; cases p
 | some z =>
  rw [q] at p
  have p : kIx z.1 (.int 0) z.2 = some (.str (ownS k), h) := p
  show (Res.ok z.1 z.2).bind _ = _
  rw [bind_ok]
  show ((mC (.int 0)) _ z.2).bind _ = _
  rw [c_ok, bind_ok]
  show Res.of (kIx z.1 (.int 0) z.2) = _
  rw [p]
  rfl
theorem asH {m1 : ME} {ma : MA} {τ : AS} {h h1 h2 : AH} {v1 : AV} {vs : List AV} (e1 : m1 τ h = .ok v1 h1) (e2 : ma τ h1 = .ok vs h2) : (mCons m1 ma) τ h = .ok (v1 :: vs) h2 := by rw [mCons_ev, e1, bind_ok, fCons_ev, e2, bind_ok, fCons2_ev]
theorem nilH {τ : AS} {h : AH} : (mNil : MA) τ h = .ok [] h := rfl
theorem aug_run {i : Nat} {a : Nat} {τ : AS} {h : AH} (e : τ[i]? = some (some (.int (a : Nat)))) : sAug i (kAugI fun i j => i + j) (mC (.int 1)) τ h = .nx (τ.set i (some (.int ((a + 1 : Nat))))) h := by
 have il : i < τ.length := (List.getElem?_eq_some_iff.mp e).1
 rw [sAug_ev, e, sAug2_ev, if_pos (show plainV (.int (a : Nat)) = true from rfl), c_ok, bindS_ok, fAug_ev, kAugI_ev]
 simp only
 rw [if_pos il]
 rfl
theorem mkN_st {τ : AS} {h h1 h2 h3 : AH} {m1 m2 : ME} {v1 v2 : AV} {fs : List (Nat × AV)} (e1 : m1 τ h = .ok v1 h1) (e2 : m2 τ h1 = .ok v2 h2) (e3 : m_Store__init [v1, v2] h2 = .ok fs h3) : mMkN 13 2 0 (chkI 3 m_Store__init) [0, 1] [.tup [], .tup []] (mCons m1 (mCons m2 mNil)) mNil τ h = .ok (.obj 13 fs) h3 := by
 rw [mMkN_ev, mCons_ev, e1, bind_ok, fCons_ev, mCons_ev, e2, bind_ok, fCons_ev, mNil_ev, bind_ok, fCons2_ev, bind_ok, fCons2_ev, bind_ok, fMkN1_ev, mNil_ev, bind_ok, fMkN2_ev, if_pos ⟨rfl, rfl⟩]
 show ((chkI 3 m_Store__init [v1, v2] h2).bind _) = _
 rw [show chkI 3 m_Store__init [v1, v2] h2 = m_Store__init [v1, v2] h2 from rfl, e3]
 rfl
theorem set_app {h : AH} {y y' : Option AO} {t : AH} : (h ++ (y :: t)).set h.length y' = h ++ (y' :: t) := by
 rw [List.set_append_right _ _ (Nat.le_refl _), Nat.sub_self]
 rfl
theorem get_app {h : AH} {y : Option AO} {t : AH} : (h ++ (y :: t))[h.length]? = some y := by
 rw [List.getElem?_append_right (Nat.le_refl _), Nat.sub_self]
 rfl
theorem batch_new {sv : AV} (ps : plainV sv = true) (cl lo : Str) (h : AH) : c_Store_batch [sv, .str cl, .str lo] h = .ok (.ref h.length) (h ++ [some (.ins 14 (btF sv cl lo 0 (h.length + 1) (h.length + 2))), some (.dk []), some (.dk [])]) := by
 have pr : plainV (.ref h.length) = true := rfl
 simp [c_Store_batch, m_Store_batch, b_Store_batch, c_Batch__init, m_Batch__init, b_Batch__init, ps, set_app, get_app, aput, btF]
theorem as1H {m1 : ME} {τ : AS} {h h1 : AH} {v1 : AV} (e1 : m1 τ h = .ok v1 h1) : (mCons m1 mNil) τ h = .ok [v1] h1 := asH e1 nilH
theorem l1_okH {k : List AV → AH → Option (AV × AH)} {m1 : ME} {τ : AS} {h h1 h2 : AH} {v1 v : AV} (e1 : m1 τ h = .ok v1 h1) (e2 : k [v1] h1 = some (v, h2)) : mL k (mCons m1 mNil) τ h = .ok v h2 := by
 rw [mL_ev, as1H e1, bind_ok, fL_ev, e2]
 rfl
def SfA (h : AH) (n : Nat) (v : AV) : Prop := ∃ d, datH h n v = some d ∧ PyData.eqv d d = true
theorem sf_int {h : AH} {n : Nat} (i : Int) : SfA h n (.int i) := ⟨.int i, by cases n <;> rfl, by simp [PyData.eqv]⟩
theorem sf_str {h : AH} {n : Nat} (x : Str) : SfA h n (.str x) := ⟨.str x, by cases n <;> rfl, by simp [PyData.eqv]⟩
theorem sf_non {h : AH} {n : Nat} : SfA h n .non := ⟨.none, by cases n <;> rfl, by simp [PyData.eqv]⟩
theorem sf_all {h : AH} {n : Nat} : ∀ {xs : List AV}, (∀ x ∈ xs, SfA h n x) → ∃ ds, xs.mapM (datH h n) = some ds ∧ PyData.eqvAll ds ds = true
 | [], _ => ⟨[], rfl, by simp [PyData.eqvAll]⟩
 | x :: t, H => by
  obtain ⟨d, e1, q1⟩ := H x (by simp)
  obtain ⟨ds, e2, q2⟩ := sf_all (xs := t) fun y hy => H y (by simp [hy])
  exact ⟨d :: ds, by simp [List.mapM_cons, e1, e2], by simp [PyData.eqvAll, q1, q2]⟩
theorem sf_tup {h : AH} {n : Nat} {xs : List AV} (H : ∀ x ∈ xs, SfA h n x) : SfA h (n + 1) (.tup xs) := by
 obtain ⟨ds, e, q⟩ := sf_all H
 exact ⟨.tuple ds, by simp only [datH]; rw [e]; rfl, by simp only [PyData.eqv]; exact q⟩
theorem sf_lst {h : AH} {n : Nat} {v : AV} {xs : List AV} (l : lstOf v h = some xs) (H : ∀ x ∈ xs, SfA h n x) : SfA h (n + 1) v := by
 obtain ⟨ds, e, q⟩ := sf_all H
 exact ⟨.list ds, datH_lst l e, by simp only [PyData.eqv]; exact q⟩
theorem ne_sf {h : AH} {v : AV} (S : SfA h 12 v) : kNeH v v h = some (.bl false, h) := by
 obtain ⟨d, e, q⟩ := S
 rw [kNeH_of e e, q]
 rfl
theorem ne_two {h : AH} {v w : AV} {xs : List AV} (e1 : lstOf v h = some xs) (e2 : lstOf w h = some xs) (H : ∀ x ∈ xs, SfA h 11 x) : kNeH v w h = some (.bl false, h) := by
 obtain ⟨ds, e, q⟩ := sf_all H
 rw [kNeH_of (datH_lst e1 e) (datH_lst e2 e)]
 simp only [PyData.eqv, q]
 rfl
structure LwAt (h : AH) (r o : Nat) (l bo : DL) (os : List Str) : Prop where
 hr : h[r]? = some (some (.dk (gD l)))
 ho : h[o]? = some (some (.lst (os.map .str)))
 ro : r ≠ o
 po : (ksL bo).Perm os
theorem lst_of {n : Nat} {h : AH} {xs : List AV} (e : h[n]? = some (some (.lst xs))) : lstOf (.ref n) h = some xs := by simp [lstOf, e]
theorem fit_sok {x : Str} (e : fitB x = true) : PyData.strOk x = true := by
 have h := fit_tx e
 unfold txB at h
 rw [Bool.and_eq_true] at h
 exact h.1
theorem lreason_ok {ks : List Str} {h : AH} {r o : Nat} {l bo : DL} {os : List Str} (hk : ∀ k, k ∈ ks → keyB k = true) (Q : Qw ks l bo) (L : LwAt h r o l bo os) {cl lo d n : Str} {v : Option Int} (N : NmOk ks d n) :
  c_reason [.ref r, .ref o, .tup [.str d, .str n, vA v], .tup [.str cl, .str lo]] h = .ok (osA (reasonF cl lo (l, bo) d n v)) h := by
 let υ : AS := [some (.ref r), some (.ref o), some (.tup [.str d, .str n, vA v]), some (.tup [.str cl, .str lo]), none, none, none]
 let τ : AS := [some (.ref r), some (.ref o), some (.tup [.str d, .str n, vA v]), some (.tup [.str cl, .str lo]), some (.str d), some (.str n), some (vA v)]
 have s1 : sAsg (gT 3 (gsCons (gN 4) (gsCons (gN 5) (gsCons (gN 6) gsNil)))) (mVar 2) υ h = .nx τ h := by
  rw [sAsg_ev, var_ok (v := .tup [.str d, .str n, vA v]) rfl rfl, bindS_ok, fAsg_ev]
  rfl
 have q4 : ∀ (y : Str), (mB (mBin kEqH (mVar 4) (mC (.str y)))) τ h = .ok (decide (d = y)) h := fun y => tb_ok (bin2 (v1 := .str d) (v2 := .str y) (var_ok rfl rfl) c_ok (kEqH_str _ _ _))
 have n4 : ∀ (y : Str), (mB (mBin kNeH (mVar 4) (mC (.str y)))) τ h = .ok (!decide (d = y)) h := fun y => tb_ok (bin2 (v1 := .str d) (v2 := .str y) (var_ok rfl rfl) c_ok (kNeH_str _ _ _))
 have x0 : (mBin kIx (mVar 3) (mC (.int 0))) τ h = .ok (.str cl) h := bin2 (v1 := .tup [.str cl, .str lo]) (v2 := .int 0) (var_ok rfl rfl) c_ok rfl
 have x1 : (mBin kIx (mVar 3) (mC (.int 1))) τ h = .ok (.str lo) h := bin2 (v1 := .tup [.str cl, .str lo]) (v2 := .int 1) (var_ok rfl rfl) c_ok rfl
 have q2 : (mB (mBin kEqH (mBin kIx (mVar 3) (mC (.int 0))) (mC (.str "refuse")))) τ h = .ok (decide (cl = "refuse")) h := tb_ok (bin2 (v1 := .str cl) (v2 := .str "refuse") x0 c_ok (kEqH_str _ _ _))
 have q3 : (mB (mBin kEqH (mBin kIx (mVar 3) (mC (.int 1))) (mC (.str "refuse")))) τ h = .ok (decide (lo = "refuse")) h := tb_ok (bin2 (v1 := .str lo) (v2 := .str "refuse") x1 c_ok (kEqH_str _ _ _))
 have isN : (mB (mBin kIsN (mVar 6) (mC .non))) τ h = .ok v.isNone h := tb_ok (bin2 (v1 := vA v) (var_ok rfl pl_vA) c_ok (by cases v <;> rfl))
 have ow : ∀ w, w ∈ os → PyData.strOk w = true := fun w hw => fit_sok (Q.fb w (L.po.mem_iff.mpr hw))
 have io : ∀ (neg : Bool) (x : Str), fitB x = true → kInH neg (.str x) (.ref o) h = some (.bl (if neg then !decide (x ∈ ksL bo) else decide (x ∈ ksL bo)), h) := fun neg x fx => by
  rw [inH_str (lst_of L.ho) (fit_sok fx) ow, show decide (x ∈ ksL bo) = decide (x ∈ os) from decide_eq_decide.mpr L.po.mem_iff]
 have idf : (mB (mBin (kInDict false) (mVar 5) (mVar 0))) τ h = .ok (decide (n ∈ ksL l)) h := tb_ok (bin2 (v1 := .str n) (v2 := .ref r) (var_ok rfl rfl) (var_ok rfl rfl) (in_dk L.hr false n))
 have idt : (mB (mBin (kInDict true) (mVar 5) (mVar 0))) τ h = .ok (!decide (n ∈ ksL l)) h := tb_ok (bin2 (v1 := .str n) (v2 := .ref r) (var_ok rfl rfl) (var_ok rfl rfl) (in_dk L.hr true n))
 show SRes.fin (b_reason υ h) = _
 unfold b_reason reasonF
 simp only
 rw [sSeq_ev, s1, thn_nx]
 by_cases c1 : d = "bear"
 ·have q := q4 "bear"
  rw [decide_eq_true c1] at q
  have ho : (mB (mBin (kInH false) (mVar 5) (mVar 1))) τ h = .ok (decide (n ∈ ksL bo)) h := tb_ok (bin2 (v1 := .str n) (v2 := .ref o) (var_ok rfl rfl) (var_ok rfl rfl) (io false n (own_fits hk (N.b c1))))
  rw [sSeq_ev, sIf_ev, q, bindS_ok, fIf_t, sRet_ev, mIf_ev, ho, bind_ok, if_pos c1]
  by_cases c2 : n ∈ ksL bo
  ·rw [decide_eq_true c2, if_pos c2]; rfl
  ·rw [decide_eq_false c2, if_neg c2]; rfl
 ·have q := q4 "bear"
  rw [decide_eq_false c1] at q
  have kn := N.k c1
  rw [sSeq_ev, if_skip q, thn_nx, if_neg c1]
  have c := and_b (n4 "drop") isN
  by_cases c2 : d ≠ "drop" ∧ v.isNone = true
  ·rw [decide_eq_false c2.1, c2.2] at c
   rw [sSeq_ev, sIf_ev, c, bindS_ok, if_pos c2]
   rfl
  ·have c' : (!decide (d = "drop") && v.isNone) = false := by
    rw [Bool.eq_false_iff]
    intro t
    rw [Bool.and_eq_true, Bool.not_eq_true'] at t
    exact c2 ⟨of_decide_eq_false t.1, t.2⟩
   rw [c'] at c
   rw [sSeq_ev, if_skip c, thn_nx, if_neg c2]
   by_cases c3 : d = "make"
   ·have q := q4 "make"
    rw [decide_eq_true c3] at q
    have no : (mB (mBin (kInH true) (mBin kIx (mM1 kPart (mVar 5) (mC (.str "/"))) (mC (.int 0))) (mVar 1))) τ h = .ok (!decide (ownS n ∈ ksL bo)) h := tb_ok (bin2 (v1 := .str (ownS n)) (v2 := .ref o) (own_ixk (hk n kn) rfl) (var_ok rfl rfl) (io true _ (own_fit (hk n kn))))
    have cc := and_b idf q2
    rw [sSeq_ev, sIf_ev, q, bindS_ok, fIf_t, if_pos c3]
    by_cases c4 : ownS n ∈ ksL bo
    ·rw [decide_eq_true c4] at no
     rw [sSeq_ev, if_skip no, thn_nx, sRet_ev, mIf_ev, cc, bind_ok, if_neg (fun z => z c4)]
     by_cases c5 : n ∈ ksL l ∧ cl = "refuse"
     ·rw [decide_eq_true c5.1, decide_eq_true c5.2, if_pos c5]; rfl
     ·have : (decide (n ∈ ksL l) && decide (cl = "refuse")) = false := by
       rw [Bool.eq_false_iff]
       intro t
       rw [Bool.and_eq_true] at t
       exact c5 ⟨of_decide_eq_true t.1, of_decide_eq_true t.2⟩
      rw [this, if_neg c5]; rfl
    ·rw [decide_eq_false c4] at no
     rw [sSeq_ev, sIf_ev, no, bindS_ok, if_pos c4]
     rfl
   ·have q := q4 "make"
    rw [decide_eq_false c3] at q
    have cc := and_b idt q3
    rw [sSeq_ev, if_skip q, thn_nx, sRet_ev, mIf_ev, cc, bind_ok, if_neg c3]
    by_cases c5 : ¬ n ∈ ksL l ∧ lo = "refuse"
    ·rw [decide_eq_false c5.1, decide_eq_true c5.2, if_pos c5]; rfl
    ·have : (!decide (n ∈ ksL l) && decide (lo = "refuse")) = false := by
      rw [Bool.eq_false_iff]
      intro t
      rw [Bool.and_eq_true, Bool.not_eq_true'] at t
      exact c5 ⟨of_decide_eq_false t.1, of_decide_eq_true t.2⟩
     rw [this, if_neg c5]; rfl
theorem set_at0 {h : AH} {n : Nat} {o : Option AO} (e : h[n]? = some o) : h.set n o = h := by
 apply List.ext_getElem?
 intro i
 by_cases c : n = i
 ·subst c
  rw [List.getElem?_set_self (List.getElem?_eq_some_iff.mp e).1, e]
 ·rw [gsn c]
theorem del_same {x : Str} {l : DL} (c : ¬ x ∈ ksL l) : delL x l = l := by
 unfold delL
 rw [List.filter_eq_self]
 intro p hp
 exact decide_eq_true fun e => c (e ▸ List.mem_map.mpr ⟨p, hp, rfl⟩)
theorem dpop_run {h : AH} {m : Nat} {ml : DL} (hm : h[m]? = some (some (.dk (gD ml)))) {τ : AS} {x : Str} {i j : Nat} (ei : τ[i]? = some (some (.ref m))) (ej : τ[j]? = some (some (.str x))) : sExpr (mDPop (mVar i) (mVar j) (mC .non)) τ h = .nx τ (h.set m (some (.dk (gD (delL x ml))))) := by
 by_cases c : x ∈ ksL ml
 ·have vs := val_some (x := x) (l := ml)
  rw [decide_eq_true c] at vs
  obtain ⟨v, hv⟩ := Option.isSome_iff_exists.mp vs
  have e1 := del_eq x ml
  simp [ei, ej, hm, hv, e1]
 ·have vs := val_some (x := x) (l := ml)
  rw [decide_eq_false c] at vs
  have hv : valA (gD ml) (.inr x) = none := by
   cases q : valA (gD ml) (.inr x) with
   | none => rfl
   | some _ => rw [q] at vs; cases vs
  rw [del_same c, set_at0 hm]
  simp [ei, ej, hm, hv]
theorem LwAt.mv {h h' : AH} {r o : Nat} {l bo : DL} {os : List Str} (L : LwAt h r o l bo os) (e1 : h'[r]? = h[r]?) (e2 : h'[o]? = h[o]?) : LwAt h' r o l bo os := ⟨e1.trans L.hr, e2.trans L.ho, L.ro, L.po⟩
def dls : List Str := ["bear", "make", "set", "add", "drop"]
theorem LwAt.los {ks : List Str} {h : AH} {r o : Nat} {l bo : DL} {os : List Str} (Q : Qw ks l bo) (L : LwAt h r o l bo os) : os.length ≤ ks.length := by
 have := L.po.length_eq
 have q := Q.len.2
 unfold ksL at this
 rw [List.length_map] at this
 omega
theorem ldo_ok {ks : List Str} {h : AH} {r o : Nat} {l bo : DL} {os : List Str} (hk : ∀ k, k ∈ ks → keyB k = true) (lk : ks.length ≤ 50) (Q : Qw ks l bo) (L : LwAt h r o l bo os) {cl lo d n : Str} {v : Option Int} (N : NmOk ks d n) (hd : d ∈ dls) (e : reasonF cl lo (l, bo) d n v = none) :
  ∃ h' os', c_do [.ref r, .ref o, .tup [.str d, .str n, vA v], .tup [.str cl, .str lo]] h = .ok .non h' ∧ LwAt h' r o (dwF cl (l, bo) d n v).1 (dwF cl (l, bo) d n v).2 os' ∧ (∀ j, j ≠ r → j ≠ o → h'[j]? = h[j]?) ∧ h'.length = h.length := by
 have ⟨ql, qb⟩ := Q.len
 have lo' := L.los Q
 let υ : AS := [some (.ref r), some (.ref o), some (.tup [.str d, .str n, vA v]), some (.tup [.str cl, .str lo]), none, none, none]
 let τ : AS := [some (.ref r), some (.ref o), some (.tup [.str d, .str n, vA v]), some (.tup [.str cl, .str lo]), some (.str d), some (.str n), some (vA v)]
 have s1 : sAsg (gT 3 (gsCons (gN 4) (gsCons (gN 5) (gsCons (gN 6) gsNil)))) (mVar 2) υ h = .nx τ h := by
  rw [sAsg_ev, var_ok (v := .tup [.str d, .str n, vA v]) rfl rfl, bindS_ok, fAsg_ev]
  rfl
 have q4 : ∀ (y : Str), (mB (mBin kEq (mVar 4) (mC (.str y)))) τ h = .ok (decide (d = y)) h := fun y => tb_ok (bin2 (v1 := .str d) (v2 := .str y) (var_ok rfl rfl) c_ok (kEq_s _ _ h))
 have x0 : (mBin kIx (mVar 3) (mC (.int 0))) τ h = .ok (.str cl) h := bin2 (v1 := .tup [.str cl, .str lo]) (v2 := .int 0) (var_ok rfl rfl) c_ok rfl
 have q2 : (mB (mBin kEq (mBin kIx (mVar 3) (mC (.int 0))) (mC (.str "take")))) τ h = .ok (decide (cl = "take")) h := tb_ok (bin2 (v1 := .str cl) (v2 := .str "take") x0 c_ok (kEq_s _ _ h))
 have idf : (mB (mBin (kInDict false) (mVar 5) (mVar 0))) τ h = .ok (decide (n ∈ ksL l)) h := tb_ok (bin2 (v1 := .str n) (v2 := .ref r) (var_ok rfl rfl) (var_ok rfl rfl) (in_dk L.hr false n))
 have idt : (mB (mBin (kInDict true) (mVar 5) (mVar 0))) τ h = .ok (!decide (n ∈ ksL l)) h := tb_ok (bin2 (v1 := .str n) (v2 := .ref r) (var_ok rfl rfl) (var_ok rfl rfl) (in_dk L.hr true n))
 have put : ∀ (m : ME) (i : Int), m τ h = .ok (.int i) h → sDPutM (mVar 0) (mVar 5) m τ h = .nx τ (h.set r (some (.dk (gD (putL n (.int i) l))))) := fun m i em => dput_run (v := .int i) em (var_ok (v := .ref r) rfl rfl) (var_ok (v := .str n) rfl rfl) L.hr (by omega)
 have keep : ∀ {l' : DL}, ownS n ∈ ksL bo → LwAt (h.set r (some (.dk (gD l')))) r o l' (putL (ownS n) (.bl true) bo) os := fun {l'} m => ⟨at_set L.hr, by rw [gsn L.ro]; exact L.ho, L.ro, by rw [ks_put, if_pos m]; exact L.po⟩
 have fr : ∀ (x : AO), (∀ j, j ≠ r → j ≠ o → (h.set r (some x))[j]? = h[j]?) ∧ (h.set r (some x)).length = h.length := fun x => ⟨fun j jr _ => by rw [gsn (Ne.symm jr)], by simp⟩
 have r0 : c_do [.ref r, .ref o, .tup [.str d, .str n, vA v], .tup [.str cl, .str lo]] h = SRes.fin (b_do υ h) := rfl
 rw [r0]
 unfold b_do dwF
 simp only
 rw [sSeq_ev, s1, thn_nx, sIf_ev, q4 "bear", bindS_ok]
 by_cases c1 : d = "bear"
 ·have nb : ¬ n ∈ ksL bo := fun z => by
   unfold reasonF at e
   rw [if_pos c1, if_pos z] at e
   cases e
  refine ⟨h.set o (some (.lst (os.map .str ++ [.str n]))), os ++ [n], ?_, ⟨?_, ?_, L.ro, ?_⟩, fun j _ jo => by rw [gsn (Ne.symm jo)], by simp⟩
  ·rw [decide_eq_true c1, fIf_t, app_run (i := 1) (m := o) (xs := os.map .str) rfl L.ho (var_ok (v := .str n) rfl rfl) L.ho (by rw [List.length_map]; omega)]
   rfl
  ·rw [if_pos c1, gsn (Ne.symm L.ro)]; exact L.hr
  ·rw [at_set L.ho, List.map_append]; rfl
  ·rw [if_pos c1, ks_put, if_neg nb]; exact L.po.append_right _
 ·have kn := N.k c1
  rw [decide_eq_false c1, fIf_f, sIf_ev]
  simp only [if_neg c1]
  by_cases c3 : d = "make"
  ·obtain ⟨i, rfl⟩ := reason_val e c1 (by rw [c3]; decide +kernel)
   have om : ownS n ∈ ksL bo := by
    unfold reasonF at e
    rw [if_neg c1, if_neg (by simp), if_pos c3] at e
    by_cases z : ownS n ∈ ksL bo
    ·exact z
    ·rw [if_pos z] at e; cases e
   have cc := and_b (q4 "make") (or_b idt q2)
   rw [decide_eq_true c3] at cc
   rw [cc, bindS_ok]
   simp only [if_pos c3, Option.getD_some, Bool.true_and]
   by_cases c4 : ¬ n ∈ ksL l ∨ cl = "take"
   ·have : (!decide (n ∈ ksL l) || decide (cl = "take")) = true := by
     rw [Bool.or_eq_true]
     rcases c4 with z | z
     ·left; rw [decide_eq_false z]; rfl
     ·right; exact decide_eq_true z
    refine ⟨_, os, ?_, by rw [if_pos c4]; exact keep om, (fr _).1, (fr _).2⟩
    rw [this, fIf_t, put (mVar 6) i (var_ok (v := .int i) rfl rfl)]
    rfl
   ·have : (!decide (n ∈ ksL l) || decide (cl = "take")) = false := by
     rw [Bool.eq_false_iff]
     intro t
     rcases Bool.or_eq_true_iff.mp t with z | z
     ·exact c4 (.inl (of_decide_eq_false (by rw [Bool.not_eq_true'] at z; exact z)))
     ·exact c4 (.inr (of_decide_eq_true z))
    refine ⟨h, os, ?_, by rw [if_neg c4]; exact L, fun _ _ _ => rfl, rfl⟩
    have a1 := and_b (q4 "set") idf
    have a2 := and_b (q4 "add") idf
    rw [decide_eq_false (show ¬ d = "set" by rw [c3]; decide +kernel), Bool.false_and] at a1
    rw [decide_eq_false (show ¬ d = "add" by rw [c3]; decide +kernel), Bool.false_and] at a2
    have a3 := q4 "drop"
    rw [decide_eq_false (show ¬ d = "drop" by rw [c3]; decide +kernel)] at a3
    rw [this, fIf_f, sIf_ev, a1, bindS_ok, fIf_f, sIf_ev, a2, bindS_ok, fIf_f, sIf_ev, a3, bindS_ok]
    rfl
  ·have cc := and_b (q4 "make") (or_b idt q2)
   rw [decide_eq_false c3, Bool.false_and] at cc
   rw [cc, bindS_ok, fIf_f, sIf_ev]
   simp only [if_neg c3]
   have a1 := and_b (q4 "set") idf
   have a2 := and_b (q4 "add") idf
   have a3 := q4 "drop"
   by_cases c4 : n ∈ ksL l
   ·have om : ownS n ∈ ksL bo := Q.ow n c4
    simp only [if_pos c4]
    rw [decide_eq_true c4, Bool.and_true] at a1 a2
    rw [a1, bindS_ok]
    by_cases c5 : d = "drop"
    ·rw [decide_eq_false (show ¬ d = "set" by rw [c5]; decide +kernel), fIf_f, sIf_ev, a2, bindS_ok, decide_eq_false (show ¬ d = "add" by rw [c5]; decide +kernel), fIf_f, sIf_ev, a3, bindS_ok, decide_eq_true c5, fIf_t]
     simp only [if_pos c5]
     refine ⟨_, os, by rw [dpop_run L.hr (i := 0) (j := 5) (x := n) rfl rfl]; rfl, ⟨at_set L.hr, by rw [gsn L.ro]; exact L.ho, L.ro, L.po⟩, (fr _).1, (fr _).2⟩
    ·obtain ⟨i, rfl⟩ := reason_val e c1 c5
     simp only [if_neg c5, Option.getD_some]
     by_cases c6 : d = "set"
     ·rw [decide_eq_true c6, fIf_t, put (mVar 6) i (var_ok (v := .int i) rfl rfl)]
      simp only [if_pos c6]
      exact ⟨_, os, rfl, keep om, (fr _).1, (fr _).2⟩
     ·have c7 : d = "add" := by
       unfold dls at hd
       simp only [List.mem_cons, List.not_mem_nil, or_false] at hd
       rcases hd with z | z | z | z | z
       ·exact absurd z c1
       ·exact absurd z c3
       ·exact absurd z c6
       ·exact z
       ·exact absurd z c5
      have gi := getI_ok Q.il Q.nl c4
      have em : (mBin kAdd (mBin kDGet (mVar 0) (mVar 5)) (mVar 6)) τ h = .ok (.int (getI l n + i)) h := bin2 (v1 := .int (getI l n)) (v2 := .int i) (bin2 (v1 := .ref r) (v2 := .str n) (var_ok rfl rfl) (var_ok rfl rfl) (by unfold kDGet dctA; simp only [L.hr, Option.bind_some, show keyA (.str n) = some (.inr n) from rfl, gi, Option.map_some])) (var_ok rfl rfl) rfl
      rw [decide_eq_false c6, fIf_f, sIf_ev, a2, bindS_ok, decide_eq_true c7, fIf_t, put _ _ em]
      simp only [if_neg c6]
      exact ⟨_, os, rfl, keep om, (fr _).1, (fr _).2⟩
   ·simp only [if_neg c4]
    rw [decide_eq_false c4, Bool.and_false] at a1 a2
    rw [a1, bindS_ok, fIf_f, sIf_ev, a2, bindS_ok, fIf_f, sIf_ev, a3, bindS_ok]
    by_cases c5 : d = "drop"
    ·rw [decide_eq_true c5, fIf_t, dpop_run L.hr (i := 0) (j := 5) (x := n) rfl rfl, del_same c4, set_at0 L.hr]
     exact ⟨h, os, rfl, L, fun _ _ _ => rfl, rfl⟩
    ·rw [decide_eq_false c5, fIf_f]
     exact ⟨h, os, rfl, L, fun _ _ _ => rfl, rfl⟩
def BtT (h : AH) (n : Nat) (sv : AV) (cl lo : Str) (t : Int) (r1 r2 : Nat) : Prop := h[n]? = some (some (.ins 14 (btF sv cl lo t r1 r2)))
theorem BtT.at {h : AH} {n : Nat} {sv : AV} {cl lo : Str} {t : Int} {r1 r2 : Nat} (T : BtT h n sv cl lo t r1 r2) : BtAt h n sv cl lo := ⟨t, r1, r2, T⟩
theorem bw_ok {ks : List Str} {h : AH} {a b bt r1 r2 : Nat} {t : Int} {l bo : DL} (hk : ∀ k, k ∈ ks → keyB k = true) (S : Sw ks h a b l bo) (ll : l.length ≤ 1000) (lb : bo.length ≤ 1000) {cl lo d n : Str} {v : Option Int} (N : NmOk ks d n) (T : BtT h bt (stV a b) cl lo t r1 r2) (na : bt ≠ a) (nb : bt ≠ b) (e : reasonF cl lo (l, bo) d n v = none) :
  ∃ h', c_Batch_write [.ref bt, .str d, .str n, vA v] h = .ok .non h' ∧ h'[a]? = some (some (.dk (gD (dwF cl (l, bo) d n v).1))) ∧ h'[b]? = some (some (.dk (gD (dwF cl (l, bo) d n v).2))) ∧ BtT h' bt (stV a b) cl lo (t + 1) r1 r2 ∧ (∀ j, j ≠ a → j ≠ b → j ≠ bt → h'[j]? = h[j]?) ∧ h'.length = h.length := by
 have eb := T
 let τ (x y : Option AV) : AS := [some (.ref bt), some (.str d), some (.str n), some (vA v), x, y]
 let h1 : AH := h.set bt (some (.ins 14 (btF (stV a b) cl lo (t + 1) r1 r2)))
 have eb1 : h1[bt]? = some (some (.ins 14 (btF (stV a b) cl lo (t + 1) r1 r2))) := at_set eb
 have s1 : sSet 4 (mFld [14] 55 (mVar 0)) (τ none none) h = .nx (τ (some (.int t)) none) h := by
  rw [sSet_ev, fld_ins (v := .int t) eb rfl rfl rfl]
  rfl
 have s2 : sFldAdd [14] 55 (mVar 0) (mC (.int 1)) (τ (some (.int t)) none) h = .nx (τ (some (.int t)) none) h1 := fadd_run (var_ok rfl rfl) eb rfl rfl (by show (6 : Nat) ≤ 900; decide) c_ok
 have S1 : Sw ks h1 a b l bo := ⟨by rw [gsn na]; exact S.ha, by rw [gsn nb]; exact S.hb, S.ab, S.il, S.tb, S.nl, S.nb, S.fb, S.ow⟩
 have s3 : sSet 5 (mMet 14 58 c_Batch_refusal (mVar 0) (mCons (mVar 1) (mCons (mVar 2) (mCons (mVar 3) mNil)))) (τ (some (.int t)) none) h1 = .nx (τ (some (.int t)) (some .non)) h1 := by
  rw [sSet_ev, met_ok (v := .ref bt) (var_ok rfl rfl) (fo_ins eb1) rfl (asC (v1 := .str d) (var_ok rfl rfl) (asC (v1 := .str n) (var_ok rfl rfl) (as1 (v1 := vA v) (var_ok rfl pl_vA)))) (refusal_ok hk S1 N ⟨_, _, _, eb1⟩), e]
  rfl
 have s4 : (mB (mBin kNotN (mVar 5) (mC .non))) (τ (some (.int t)) (some .non)) h1 = .ok false h1 := rfl
 obtain ⟨h2, e2, x1, x2, fr, ln⟩ := dw_ok hk S1 ll lb N e
 refine ⟨h2, ?_, x1, x2, (show _ from by unfold BtT; rw [fr bt na nb]; exact eb1), fun j ja jb jt => by rw [fr j ja jb, gsn (Ne.symm jt)], by rw [ln]; simp [h1]⟩
 have t3 : mL kTup (mCons (mVar 1) (mCons (mVar 2) (mCons (mVar 3) mNil))) (τ (some (.int t)) (some .non)) h1 = .ok (.tup [.str d, .str n, vA v]) h1 := by
  rw [mL_ev, asC (v1 := .str d) (var_ok rfl rfl) (asC (v1 := .str n) (var_ok rfl rfl) (as1 (v1 := vA v) (var_ok rfl pl_vA))), bind_ok]
  rfl
 show SRes.fin (b_Batch_write (τ none none) h) = _
 unfold b_Batch_write
 rw [sSeq_ev, s1, thn_nx, sSeq_ev, s2, thn_nx, sSeq_ev, s3, thn_nx, sSeq_ev, if_skip s4, thn_nx, sExpr_ev, cl3 (v1 := stV a b) (v3 := .str cl) (fld_ins (v := stV a b) eb1 rfl rfl rfl) t3 (fld_ins (v := .str cl) eb1 rfl rfl rfl) e2]
 rfl
theorem bw_exc {ks : List Str} {h : AH} {a b bt r1 r2 : Nat} {t : Int} {l bo : DL} (hk : ∀ k, k ∈ ks → keyB k = true) (S : Sw ks h a b l bo) {cl lo d n y : Str} {v : Option Int} (N : NmOk ks d n) (T : BtT h bt (stV a b) cl lo t r1 r2) (na : bt ≠ a) (nb : bt ≠ b) (e : reasonF cl lo (l, bo) d n v = some y) :
  c_Batch_write [.ref bt, .str d, .str n, vA v] h = .exc (.own 5) [(7, .str y), (6, .int t)] (h.set bt (some (.ins 14 (btF (stV a b) cl lo (t + 1) r1 r2)))) := by
 have eb := T
 let τ (x y : Option AV) : AS := [some (.ref bt), some (.str d), some (.str n), some (vA v), x, y]
 let h1 : AH := h.set bt (some (.ins 14 (btF (stV a b) cl lo (t + 1) r1 r2)))
 have eb1 : h1[bt]? = some (some (.ins 14 (btF (stV a b) cl lo (t + 1) r1 r2))) := at_set eb
 have s1 : sSet 4 (mFld [14] 55 (mVar 0)) (τ none none) h = .nx (τ (some (.int t)) none) h := by
  rw [sSet_ev, fld_ins (v := .int t) eb rfl rfl rfl]
  rfl
 have s2 : sFldAdd [14] 55 (mVar 0) (mC (.int 1)) (τ (some (.int t)) none) h = .nx (τ (some (.int t)) none) h1 := fadd_run (var_ok rfl rfl) eb rfl rfl (by show (6 : Nat) ≤ 900; decide) c_ok
 have S1 : Sw ks h1 a b l bo := ⟨by rw [gsn na]; exact S.ha, by rw [gsn nb]; exact S.hb, S.ab, S.il, S.tb, S.nl, S.nb, S.fb, S.ow⟩
 have s3 : sSet 5 (mMet 14 58 c_Batch_refusal (mVar 0) (mCons (mVar 1) (mCons (mVar 2) (mCons (mVar 3) mNil)))) (τ (some (.int t)) none) h1 = .nx (τ (some (.int t)) (some (.str y))) h1 := by
  rw [sSet_ev, met_ok (v := .ref bt) (var_ok rfl rfl) (fo_ins eb1) rfl (asC (v1 := .str d) (var_ok rfl rfl) (asC (v1 := .str n) (var_ok rfl rfl) (as1 (v1 := vA v) (var_ok rfl pl_vA)))) (refusal_ok hk S1 N ⟨_, _, _, eb1⟩), e]
  rfl
 have s4 : (mB (mBin kNotN (mVar 5) (mC .non))) (τ (some (.int t)) (some (.str y))) h1 = .ok true h1 := rfl
 have s5 : sRaise (mExc (.own 5) [6, 7] (mCons (mVar 4) (mCons (mVar 5) mNil))) (τ (some (.int t)) (some (.str y))) h1 = .exc (.own 5) [(7, .str y), (6, .int t)] (τ (some (.int t)) (some (.str y))) h1 := by
  rw [sRaise_ev, mExc_ev, asC (v1 := .int t) (var_ok rfl rfl) (as1 (v1 := .str y) (var_ok rfl rfl)), bind_ok]
  rfl
 show SRes.fin (b_Batch_write (τ none none) h) = _
 unfold b_Batch_write
 rw [sSeq_ev, s1, thn_nx, sSeq_ev, s2, thn_nx, sSeq_ev, s3, thn_nx, sSeq_ev, sIf_ev, s4, bindS_ok, fIf_t, s5]
 rfl
def toldA (t : Int) : Option Str → AV
 | none => .non
 | some x => .tup [.int t, .str x]
def stpF (cl lo : Str) (s : SS) (d n : Str) (v : Option Int) : SS := if (reasonF cl lo s d n v).isNone then dwF cl s d n v else s
theorem tried_run {h : AH} {bt : Nat} {fs : List (Nat × AV)} {d n : Str} {v : Option Int} (eb : h[bt]? = some (some (.ins 14 fs))) (e61 : fs.lookup 61 = none) :
    (sIf (mB (mVar 2)) (sExpr (mMetN 14 61 3 0 [0, 1, 2, 3] [.non] (chk 4 m_Batch_write) (mVar 0) (mCons (mBin kIx (mVar 1) (mC (.int 0))) (mCons (mBin kIx (mVar 1) (mC (.int 1))) mNil)) mNil)) (sExpr (mMetN 14 61 4 0 [0, 1, 2, 3] [.non] (chk 4 m_Batch_write) (mVar 0) (mCons (mBin kIx (mVar 1) (mC (.int 0))) (mCons (mBin kIx (mVar 1) (mC (.int 1))) (mCons (mBin kIx (mVar 1) (mC (.int 2))) mNil))) mNil))) [some (.ref bt), some (.tup [.str d, .str n, vA v]), some (.bl v.isNone), some .non, none] h =
      (c_Batch_write [.ref bt, .str d, .str n, vA v] h).bindS [some (.ref bt), some (.tup [.str d, .str n, vA v]), some (.bl v.isNone), some .non, none] fun _ h' => .nx [some (.ref bt), some (.tup [.str d, .str n, vA v]), some (.bl v.isNone), some .non, none] h' := by
  have i0 : ∀ z : Bool, (mBin kIx (mVar 1) (mC (.int 0))) [some (.ref bt), some (.tup [.str d, .str n, vA v]), some (.bl z), some .non, none] h = .ok (.str d) h := fun z => bin2 (v1 := .tup [.str d, .str n, vA v]) (v2 := .int 0) (var_ok rfl rfl) c_ok rfl
  have i1 : ∀ z : Bool, (mBin kIx (mVar 1) (mC (.int 1))) [some (.ref bt), some (.tup [.str d, .str n, vA v]), some (.bl z), some .non, none] h = .ok (.str n) h := fun z => bin2 (v1 := .tup [.str d, .str n, vA v]) (v2 := .int 1) (var_ok rfl rfl) c_ok rfl
  have i2 : ∀ z : Bool, (mBin kIx (mVar 1) (mC (.int 2))) [some (.ref bt), some (.tup [.str d, .str n, vA v]), some (.bl z), some .non, none] h = .ok (vA v) h := fun z => bin2 (v1 := .tup [.str d, .str n, vA v]) (v2 := .int 2) (var_ok rfl rfl) c_ok rfl
  have t2 : (mB (mVar 2)) [some (.ref bt), some (.tup [.str d, .str n, vA v]), some (.bl v.isNone), some .non, none] h = .ok v.isNone h := tb_ok (var_ok rfl rfl)
  rw [sIf_ev, t2, bindS_ok]
  cases v with
  | none =>
    rw [show (none : Option Int).isNone = true from rfl, fIf_t, sExpr_ev, mMetN_ev, var_ok (v := .ref bt) rfl rfl, bind_ok]
    unfold fMetN
    rw [fo_ins eb]
    simp only [e61, Option.isNone_none, and_self, if_true]
    rw [asC (v1 := .str d) (i0 true) (as1 (v1 := .str n) (i1 true)), bind_ok, fMetN1_ev, mNil_ev, bind_ok, fMetN2_ev]
    rfl
  | some i =>
    rw [show (some i : Option Int).isNone = false from rfl, fIf_f, sExpr_ev, mMetN_ev, var_ok (v := .ref bt) rfl rfl, bind_ok]
    unfold fMetN
    rw [fo_ins eb]
    simp only [e61, Option.isNone_none, and_self, if_true]
    rw [asC (v1 := .str d) (i0 false) (asC (v1 := .str n) (i1 false) (as1 (v1 := vA (some i)) (i2 false))), bind_ok, fMetN1_ev, mNil_ev, bind_ok, fMetN2_ev]
    rfl
theorem tried_ok {ks : List Str} {h : AH} {a b bt r1 r2 : Nat} {t : Int} {l bo : DL} (hk : ∀ k, k ∈ ks → keyB k = true) (lk : ks.length ≤ 50) (S : Sw ks h a b l bo) (Q : Qw ks l bo) {cl lo d n : Str} {v : Option Int} (N : NmOk ks d n) (T : BtT h bt (stV a b) cl lo t r1 r2) (na : bt ≠ a) (nb : bt ≠ b) :
  ∃ h', c_tried [.ref bt, .tup [.str d, .str n, vA v], .bl v.isNone] h = .ok (toldA t (reasonF cl lo (l, bo) d n v)) h' ∧ h'[a]? = some (some (.dk (gD (stpF cl lo (l, bo) d n v).1))) ∧ h'[b]? = some (some (.dk (gD (stpF cl lo (l, bo) d n v).2))) ∧ BtT h' bt (stV a b) cl lo (t + 1) r1 r2 ∧ (∀ j, j ≠ a → j ≠ b → j ≠ bt → h'[j]? = h[j]?) ∧ h'.length = h.length := by
 have ⟨ql, qb⟩ := Q.len
 have run := tried_run (h := h) (bt := bt) (d := d) (n := n) (v := v) T rfl
 have r0 : c_tried [.ref bt, .tup [.str d, .str n, vA v], .bl v.isNone] h = SRes.fin (b_tried [some (.ref bt), some (.tup [.str d, .str n, vA v]), some (.bl v.isNone), none, none] h) := rfl
 rw [r0]
 unfold b_tried
 rw [sSeq_ev, show sSet 3 (mC .non) [some (.ref bt), some (.tup [.str d, .str n, vA v]), some (.bl v.isNone), none, none] h = .nx [some (.ref bt), some (.tup [.str d, .str n, vA v]), some (.bl v.isNone), some .non, none] h from rfl, thn_nx, sSeq_ev, sTryAs_ev, run]
 cases e : reasonF cl lo (l, bo) d n v with
 | none =>
  obtain ⟨h', e', xa, xb, T', fr, ln⟩ := bw_ok hk S (by omega) (by omega) N T na nb e
  have st : stpF cl lo (l, bo) d n v = dwF cl (l, bo) d n v := by unfold stpF; rw [e]; rfl
  rw [st]
  refine ⟨h', ?_, xa, xb, T', fr, ln⟩
  rw [e', bindS_ok, ctch_nx, thn_nx, sRet_ev, var_ok (v := .non) rfl rfl]
  rfl
 | some y =>
  have e' := bw_exc hk S N T na nb e
  have st : stpF cl lo (l, bo) d n v = (l, bo) := by unfold stpF; rw [e]; rfl
  rw [st]
  have hm : mt5 (.own 5) = some true := rfl
  refine ⟨_, ?_, by rw [gsn na]; exact S.ha, by rw [gsn nb]; exact S.hb, at_set T, fun j _ _ jb => by rw [gsn (Ne.symm jb)], by simp⟩
  rw [e']
  obtain ⟨W, hW, pW, nW⟩ : ∃ W : AV, W = .tup [.str d, .str n, vA v] ∧ plainV W = true ∧ notE W = true := ⟨_, rfl, rfl, rfl⟩
  rw [← hW]
  simp [hm, nW, pW, toldA]
abbrev W3 := Str × Str × Option Int
def w3A (w : W3) : AV := .tup [.str w.1, .str w.2.1, vA w.2.2]
abbrev En := Nat × Option Str × SS
def entS (cl lo : Str) : Nat → List W3 → SS → List En
 | _, [], _ => []
 | t, w :: r, s => (t, reasonF cl lo s w.1 w.2.1 w.2.2, stpF cl lo s w.1 w.2.1 w.2.2) :: entS cl lo (t + 1) r (stpF cl lo s w.1 w.2.1 w.2.2)
def endS (cl lo : Str) (ws : List W3) (s : SS) : SS := ws.foldl (fun s w => stpF cl lo s w.1 w.2.1 w.2.2) s
def ownL (bo : DL) : List AV := (sortA (ksL bo)).map .str
def enV (e : En) (o : AV) : AV := .fl [toldA (e.1 : Nat) e.2.1, .int (e.1 + 1 : Nat), .fl (rowsL e.2.2.1), o]
theorem qw_stp {ks : List Str} (hk : ∀ k, k ∈ ks → keyB k = true) {cl lo : Str} {s : SS} {d n : Str} {v : Option Int} (Q : Qw ks s.1 s.2) (N : NmOk ks d n) : Qw ks (stpF cl lo s d n v).1 (stpF cl lo s d n v).2 := by
 unfold stpF
 split
 ·exact qw_dw hk Q N
 ·exact Q
theorem lc_rows {i a : Nat} {md : ME} {τ : AS} {h : AH} {ks : List Str} {l : DL} (ha : h[a]? = some (some (.dk (gD l)))) (il : IntL ks l) (nl : (ksL l).Nodup) (ll : l.length < 60) (lt : i < τ.length) (m0 : md τ h = .ok (.ref a) h) (m1 : ∀ k, md ((wipeA τ [i]).set i (some (.str k))) h = .ok (.ref a) h) :
  mLc [i] (gE i) (mIt PI.itL (mL kSortF (mCons (mL kListDF (mCons md mNil)) mNil))) mYes (mL kTup (mCons (mVar i) (mCons (mBin kDGet md (mVar i)) mNil))) τ h = .ok (.fl (rowsL l)) h := by
 obtain ⟨a1, a2⟩ := sorted_ok ha ll
 have s1 : (mL kSortF (mCons (mL kListDF (mCons md mNil)) mNil)) τ h = .ok (.fl ((sortA (ksL l)).map .str)) h := l1_ok (l1_ok m0 a1) a2
 rw [mLc_ev, mIt_ev, s1, bind_ok]
 show (Res.ok ((sortA (ksL l)).map AV.str) h).bind _ = _
 rw [bind_ok]
 have wj : (wipeA τ [i])[i]? = some none := by unfold wipeA; simp [lt]
 have wl : i < (wipeA τ [i]).length := (List.getElem?_eq_some_iff.mp wj).1
 have z := map_lc (i := i) (me := mL kTup (mCons (mVar i) (mCons (mBin kDGet md (mVar i)) mNil))) (τ := wipeA τ [i]) (h := h) AV.str (fun x : Str => AV.tup [.str x, .int (getI l x)]) wj (sortA (ksL l)) [] (fun x hx => by
  have vj : (mVar i) ((wipeA τ [i]).set i (some (.str x))) h = .ok (.str x) h := var_ok (by rw [List.getElem?_set_self wl]) rfl
  have gi := getI_ok il nl (sortA_mem.mp hx)
  have dg : (mBin kDGet md (mVar i)) ((wipeA τ [i]).set i (some (.str x))) h = .ok (.int (getI l x)) h := bin2 (v1 := .ref a) (v2 := .str x) (m1 x) vj (by unfold kDGet dctA; simp only [ha, Option.bind_some, show keyA (.str x) = some (.inr x) from rfl, gi, Option.map_some])
  exact l2_ok vj dg rfl) (by rw [sortA_len]; unfold ksL; simp; omega)
 rw [List.nil_append] at z
 exact z
theorem zrows_ok {ks : List Str} {h : AH} {a b : Nat} {l : DL} (ha : h[a]? = some (some (.dk (gD l)))) (il : IntL ks l) (nl : (ksL l).Nodup) (ll : l.length < 60) : c_Store_all_rows [stV a b] h = .ok (.fl (rowsL l)) h := by
 have r0 : c_Store_all_rows [stV a b] h = SRes.fin (b_Store_all_rows [some (stV a b), none] h) := rfl
 rw [r0]
 unfold b_Store_all_rows
 rw [sRet_ev, lc_rows (a := a) ha il nl ll (by simp) rfl (fun k => rfl)]
 rfl
theorem kSortR_strs {ss : List Str} {v : AV} {h : AH} (e : seqD v h = some (ss.map .str)) (hl : ss.length < 64) : kSortR [v] h = some (.ref h.length, h ++ [some (.lst ((sortA ss).map .str))]) := by
 rw [kSortR_ev, sortO_of e hl]
 rfl
theorem zowns_ok {h : AH} {a b : Nat} {bo : DL} (hb : h[b]? = some (some (.dk (gD bo)))) (ll : bo.length < 60) : c_Store_all_owners [stV a b] h = .ok (.ref h.length) (h ++ [some (.lst (ownL bo))]) := by
 obtain ⟨a1, _⟩ := sorted_ok hb ll
 have r0 : c_Store_all_owners [stV a b] h = SRes.fin (b_Store_all_owners [some (stV a b)] h) := rfl
 have f1 : mFld [12, 13] 43 (mVar 0) [some (stV a b)] h = .ok (.ref b) h := rfl
 have k2 : kSortR [.fl ((ksL bo).map .str)] h = some (.ref h.length, h ++ [some (.lst (ownL bo))]) := kSortR_strs (by simp [seqD, dctA]) (by unfold ksL; rw [List.length_map]; omega)
 rw [r0]
 unfold b_Store_all_owners
 rw [sRet_ev, l1_okH (l1_ok f1 a1) k2]
 rfl
inductive EnsAt (h : AH) (L : Nat) : List En → List AV → Prop where
 | nil : EnsAt h L [] []
 | cons {e : En} {o : Nat} {es : List En} {ys : List AV} (ho : h[o]? = some (some (.lst (ownL e.2.2.2)))) (lo : L ≤ o) (r : EnsAt h L es ys) : EnsAt h L (e :: es) (enV e (.ref o) :: ys)
theorem EnsAt.mv {h h' : AH} {L : Nat} {es : List En} {ys : List AV} (E : EnsAt h L es ys) (f : ∀ j, L ≤ j → j < h.length → h'[j]? = h[j]?) : EnsAt h' L es ys := by
 induction E with
 | nil => exact .nil
 | cons ho lo _ ih => exact .cons (by rw [f _ lo (at_lt ho)]; exact ho) lo ih
theorem EnsAt.low {h : AH} {L M : Nat} {es : List En} {ys : List AV} (E : EnsAt h L es ys) (le : M ≤ L) : EnsAt h M es ys := by
 induction E with
 | nil => exact .nil
 | cons ho lo _ ih => exact .cons ho (by omega) ih
theorem EnsAt.len {h : AH} {L : Nat} {es : List En} {ys : List AV} (E : EnsAt h L es ys) : ys.length = es.length := by
 induction E with
 | nil => rfl
 | cons _ _ _ ih => simp [ih]
structure WsOk (ks : List Str) (ws : List W3) : Prop where
 nm : ∀ w ∈ ws, NmOk ks w.1 w.2.1
 dl : ∀ w ∈ ws, w.1 ∈ dls
theorem seen_loop {ks : List Str} {a b bt f r1 r2 L : Nat} {cl lo : Str} (hk : ∀ k, k ∈ ks → keyB k = true) (lk : ks.length ≤ 50) (na : bt ≠ a) (nb : bt ≠ b) (fa : f ≠ a) (fb : f ≠ b) (ft : f ≠ bt) (la : a < L) (lb : b < L) (lt : bt < L) (lf : f < L) (x2 : Option AV) :
  ∀ (ws : List W3) (t : Nat) (s : SS) (xs : List AV) (h : AH) (p4 p5 : Option AV), WsOk ks ws → Sw ks h a b s.1 s.2 → Qw ks s.1 s.2 → BtT h bt (stV a b) cl lo (t : Nat) r1 r2 → h[f]? = some (some (.lst xs)) → xs.length + ws.length ≤ 1000 → L ≤ h.length →
  ∃ q4 q5 h' ys, forL (gN 4) l0_seen (ws.map w3A) [some (stV a b), some (.ref bt), x2, some (.ref f), p4, p5] h = .nx [some (stV a b), some (.ref bt), x2, some (.ref f), q4, q5] h' ∧ h'[f]? = some (some (.lst (xs ++ ys))) ∧ EnsAt h' L (entS cl lo t ws s) ys ∧ Sw ks h' a b (endS cl lo ws s).1 (endS cl lo ws s).2 ∧ Qw ks (endS cl lo ws s).1 (endS cl lo ws s).2 ∧
   BtT h' bt (stV a b) cl lo (t + ws.length : Nat) r1 r2 ∧ (∀ j, j < h.length → j ≠ a → j ≠ b → j ≠ bt → j ≠ f → h'[j]? = h[j]?) ∧ h.length ≤ h'.length
 | [], t, s, xs, h, p4, p5, _, S, Q, T, hf, _, _ => ⟨p4, p5, h, [], rfl, by rw [List.append_nil]; exact hf, .nil, S, Q, T, fun _ _ _ _ _ _ => rfl, Nat.le_refl _⟩
 | (d, n, v) :: r, t, s, xs, h, p4, p5, W, S, Q, T, hf, hl, hL => by
  simp only [List.length_cons] at hl
  have N : NmOk ks d n := W.nm (d, n, v) (by simp)
  obtain ⟨s1, hs1⟩ : ∃ s1, s1 = stpF cl lo s d n v := ⟨_, rfl⟩
  obtain ⟨h1, e1, xa, xb, T1, fr, ln⟩ := tried_ok (v := v) hk lk S Q N T na nb
  have Q1 : Qw ks s1.1 s1.2 := hs1 ▸ qw_stp hk Q N
  rw [← hs1] at xa xb
  have ⟨ql, qb⟩ := Q1.len
  have S1 : Sw ks h1 a b s1.1 s1.2 := Q1.toPw.sw xa xb S.ab
  have hf1 : h1[f]? = some (some (.lst xs)) := by rw [fr f fa fb ft]; exact hf
  let τ0 : AS := [some (stV a b), some (.ref bt), x2, some (.ref f), some (w3A (d, n, v)), p5]
  let τ1 : AS := [some (stV a b), some (.ref bt), x2, some (.ref f), some (w3A (d, n, v)), some (toldA t (reasonF cl lo s d n v))]
  have i2 : (mBin kIx (mVar 4) (mC (.int 2))) τ0 h = .ok (vA v) h := bin2 (v1 := .tup [.str d, .str n, vA v]) (v2 := .int 2) (var_ok rfl rfl) c_ok rfl
  have c1 : sSet 5 (mCall c_tried (mCons (mVar 1) (mCons (mVar 4) (mCons (mBin kIsN (mBin kIx (mVar 4) (mC (.int 2))) (mC .non)) mNil)))) τ0 h = .nx τ1 h1 := by
   rw [sSet_ev, cl3 (v1 := .ref bt) (v2 := .tup [.str d, .str n, vA v]) (v3 := .bl v.isNone) (var_ok rfl rfl) (var_ok rfl rfl) (bin2 (v1 := vA v) i2 c_ok (by cases v <;> rfl)) e1]
   rfl
  have told_pl : ∀ o : Option Str, plainV (toldA t o) = true := fun o => by cases o <;> rfl
  let h2 : AH := h1 ++ [some (.lst (ownL s1.2))]
  have m4 : (mL kFl (mCons (mVar 5) (mCons (mFld [14] 55 (mVar 1)) (mCons (mMet 13 47 c_Store_all_rows (mVar 0) mNil) (mCons (mMet 13 48 c_Store_all_owners (mVar 0) mNil) mNil))))) τ1 h1 = .ok (enV (t, reasonF cl lo s d n v, s1) (.ref h1.length)) h2 := by
   rw [mL_ev, asH (v1 := toldA t (reasonF cl lo s d n v)) (var_ok rfl (told_pl _)) (asH (v1 := .int (t + 1)) (fld_ins T1 rfl rfl rfl) (asH (v1 := .fl (rowsL s1.1)) (met_ok (v := stV a b) (var_ok rfl pl_st) (fo_st h1) rfl rfl (zrows_ok xa Q1.il Q1.nl (by omega))) (asH (v1 := .ref h1.length) (met_ok (v := stV a b) (var_ok rfl pl_st) (fo_st h1) rfl rfl (zowns_ok xb (by omega))) nilH))), bind_ok]
   rfl
  have hf2 : h2[f]? = some (some (.lst xs)) := by show (h1 ++ _)[f]? = _; rw [List.getElem?_append_left (at_lt hf1)]; exact hf1
  have c2 := app_run (i := 3) (m := f) (τ := τ1) rfl hf1 m4 hf2 (by omega)
  have step : l0_seen τ0 h = .nx τ1 (h2.set f (some (.lst (xs ++ [enV (t, reasonF cl lo s d n v, s1) (.ref h1.length)])))) := by
   unfold l0_seen
   rw [sSeq_ev, c1, thn_nx]
   exact c2
  obtain ⟨h3, hh3⟩ : ∃ h3, h3 = h2.set f (some (.lst (xs ++ [enV (t, reasonF cl lo s d n v, s1) (.ref h1.length)]))) := ⟨_, rfl⟩
  rw [← hh3] at step
  have n2 : h2.length = h1.length + 1 := by simp [h2]
  have n3 : h3.length = h1.length + 1 := by rw [hh3, List.length_set, n2]
  have k3 : ∀ j, j < h1.length → j ≠ f → h3[j]? = h1[j]? := fun j hj jf => by
   rw [hh3, gsn (Ne.symm jf)]
   exact List.getElem?_append_left hj
  have S3 : Sw ks h3 a b s1.1 s1.2 := Q1.toPw.sw (by rw [k3 a (by omega) (Ne.symm fa)]; exact xa) (by rw [k3 b (by omega) (Ne.symm fb)]; exact xb) S.ab
  have T3 : BtT h3 bt (stV a b) cl lo ((t + 1 : Nat) : Nat) r1 r2 := by
   have : h3[bt]? = h1[bt]? := k3 bt (by omega) (Ne.symm ft)
   unfold BtT at T1 ⊢
   rw [this]
   exact T1
  have f3 : h3[f]? = some (some (.lst (xs ++ [enV (t, reasonF cl lo s d n v, s1) (.ref h1.length)]))) := by rw [hh3]; exact at_set hf2
  obtain ⟨q4, q5, h', ys, ef, hf', E', S', Q', T', fr', ln'⟩ := seen_loop (cl := cl) (lo := lo) (r1 := r1) (r2 := r2) hk lk na nb fa fb ft la lb lt lf x2 r (t + 1) s1 (xs ++ [enV (t, reasonF cl lo s d n v, s1) (.ref h1.length)]) h3 (some (w3A (d, n, v))) (some (toldA t (reasonF cl lo s d n v)))
   ⟨fun w hw => W.nm w (by simp [hw]), fun w hw => W.dl w (by simp [hw])⟩ S3 Q1 T3 f3 (by simp; omega) (by omega)
  have eS : endS cl lo ((d, n, v) :: r) s = endS cl lo r s1 := by rw [hs1]; rfl
  have eN : entS cl lo t ((d, n, v) :: r) s = (t, reasonF cl lo s d n v, s1) :: entS cl lo (t + 1) r s1 := by rw [hs1]; rfl
  refine ⟨q4, q5, h', enV (t, reasonF cl lo s d n v, s1) (.ref h1.length) :: ys, ?_, by rw [hf']; simp, ?_, by rw [eS]; exact S', by rw [eS]; exact Q', ?_, fun j hj ja jb jt jf => ?_, by omega⟩
  ·rw [List.map_cons, forL_cons (τ1 := τ0) rfl step]
   exact ef
  ·rw [eN]
   refine .cons ?_ (by omega) E'
   rw [fr' h1.length (by omega) (by omega) (by omega) (by omega) (by omega), hh3, gsn (by omega)]
   show (h1 ++ _)[h1.length]? = _
   rw [List.getElem?_append_right (Nat.le_refl _), Nat.sub_self]
   rfl
  ·rw [show t + ((d, n, v) :: r).length = t + 1 + r.length from by simp only [List.length_cons]; omega]
   exact T'
  ·rw [fr' j (by omega) ja jb jt jf, k3 j (by omega) jf, fr j ja jb jt]
theorem seen_ok {ks : List Str} {a b bt r1 r2 : Nat} {cl lo : Str} (hk : ∀ k, k ∈ ks → keyB k = true) (lk : ks.length ≤ 50) (na : bt ≠ a) (nb : bt ≠ b) {ws : List W3} {s : SS} {h : AH} (W : WsOk ks ws) (S : Sw ks h a b s.1 s.2) (Q : Qw ks s.1 s.2) (T : BtT h bt (stV a b) cl lo 0 r1 r2) (lw : ws.length ≤ 100) :
  ∃ h' ys, c_seen [stV a b, .ref bt, .fl (ws.map w3A)] h = .ok (.fl ys) h' ∧ EnsAt h' h.length (entS cl lo 0 ws s) ys ∧ Sw ks h' a b (endS cl lo ws s).1 (endS cl lo ws s).2 ∧ Qw ks (endS cl lo ws s).1 (endS cl lo ws s).2 ∧ BtT h' bt (stV a b) cl lo (ws.length : Nat) r1 r2 ∧ (∀ j, j < h.length → j ≠ a → j ≠ b → j ≠ bt → h'[j]? = h[j]?) ∧ h.length ≤ h'.length := by
 have la := at_lt S.ha
 have lb := at_lt S.hb
 have lt := at_lt T
 let h0 : AH := h ++ [some (.lst [])]
 have n0 : h0.length = h.length + 1 := by simp [h0]
 have k0 : ∀ j, j < h.length → h0[j]? = h[j]? := fun j hj => List.getElem?_append_left hj
 have S0 : Sw ks h0 a b s.1 s.2 := Q.toPw.sw (by rw [k0 a la]; exact S.ha) (by rw [k0 b lb]; exact S.hb) S.ab
 have T0 : BtT h0 bt (stV a b) cl lo ((0 : Nat) : Nat) r1 r2 := by
  unfold BtT at T ⊢
  rw [k0 bt lt]
  exact T
 have f0 : h0[h.length]? = some (some (.lst [])) := by show (h ++ _)[h.length]? = _; rw [List.getElem?_append_right (Nat.le_refl _), Nat.sub_self]; rfl
 obtain ⟨q4, q5, h1, ys, ef, hf, E, S1, Q1, T1, fr, ln⟩ := seen_loop (cl := cl) (lo := lo) (r1 := r1) (r2 := r2) (f := h.length) (L := h.length + 1) hk lk na nb (by omega) (by omega) (by omega) (by omega) (by omega) (by omega) (by omega) (some (.fl (ws.map w3A))) ws 0 s [] h0 none none W S0 Q T0 f0 (by simp; omega) (by omega)
 rw [List.nil_append] at hf
 have lf := at_lt hf
 have q1 : ∀ j, j ≠ h.length → (h1.set h.length none)[j]? = h1[j]? := fun j hj => by rw [gsn (Ne.symm hj)]
 refine ⟨h1.set h.length none, ys, ?_, ?_, Q1.toPw.sw (by rw [q1 a (by omega)]; exact S1.ha) (by rw [q1 b (by omega)]; exact S1.hb) S.ab, Q1, ?_, fun j hj ja jb jt => ?_, by rw [List.length_set]; omega⟩
 ·have r0 : c_seen [stV a b, .ref bt, .fl (ws.map w3A)] h = SRes.fin (b_seen [some (stV a b), some (.ref bt), some (.fl (ws.map w3A)), none, none, none] h) := rfl
  rw [r0]
  unfold b_seen
  have c1 : sSet 3 (mL kLst mNil) [some (stV a b), some (.ref bt), some (.fl (ws.map w3A)), none, none, none] h = .nx [some (stV a b), some (.ref bt), some (.fl (ws.map w3A)), some (.ref h.length), none, none] h0 := rfl
  rw [sSeq_ev, c1, thn_nx, sSeq_ev, sFor_ev, it_fl (vs := ws.map w3A) rfl, bindS_ok]
  show SRes.fin ((forL (gN 4) l0_seen (ws.map w3A) [some (stV a b), some (.ref bt), some (.fl (ws.map w3A)), some (.ref h.length), none, none] h0).thn _) = _
  rw [ef, thn_nx, sRet_ev, kill_ok (m := h.length) (xs := ys) (var_ok (v := .ref h.length) rfl rfl) hf]
  rfl
 ·refine (E.mv (h' := h1.set h.length none) fun j hj _ => q1 j (by omega)).low (by omega)
 ·rw [Nat.zero_add] at T1
  unfold BtT at T1 ⊢
  rw [q1 bt (by omega)]
  exact T1
 ·rw [q1 j (by omega), fr j (by omega) ja jb jt (by omega), k0 j hj]
theorem cons_own {ks : List Str} {k d : Str} (hk : k ∈ ks) : NmOk ks d (if d = "bear" then ownS k else k) := ⟨fun e => by rw [if_pos e]; exact List.mem_map_of_mem hk, fun e => by rw [if_neg e]; exact hk⟩
theorem WsOk.nil {ks : List Str} : WsOk ks [] := ⟨fun _ h => (nomatch h), fun _ h => (nomatch h)⟩
theorem WsOk.add {ks : List Str} {ws : List W3} {w : W3} (W : WsOk ks ws) (n : NmOk ks w.1 w.2.1) (d : w.1 ∈ dls) : WsOk ks (ws ++ [w]) := by
 refine ⟨fun x hx => ?_, fun x hx => ?_⟩ <;> rcases List.mem_append.mp hx with h | h
 ·exact W.nm x h
 ·rw [List.mem_singleton.mp h]; exact n
 ·exact W.dl x h
 ·rw [List.mem_singleton.mp h]; exact d
theorem writes_step {n f : Nat} {ks : List Str} (hk : ∀ k, k ∈ ks → keyB k = true) (l0 : 0 < ks.length) (lk : ks.length ≤ 50) (fn : f ≠ n) {ws : List W3} {h : AH} (x2 p4 p5 p6 p7 : Option AV) (B : BagAt h n) (hf : h[f]? = some (some (.lst (ws.map w3A)))) (hl : ws.length ≤ 1000) :
  ∃ (w : W3) (q5 q6 q7 : Option AV) (h' : AH), l0_writes [some (.ref n), some (.fl (ks.map .str)), x2, some (.ref f), p4, p5, p6, p7] h = .nx [some (.ref n), some (.fl (ks.map .str)), x2, some (.ref f), p4, q5, q6, q7] h' ∧ BagAt h' n ∧ h'[f]? = some (some (.lst ((ws ++ [w]).map w3A))) ∧ NmOk ks w.1 w.2.1 ∧ w.1 ∈ dls ∧ (∀ j, j ≠ n → j ≠ f → h'[j]? = h[j]?) ∧ h'.length = h.length := by
 obtain ⟨d0, h1, e1, m1, D1⟩ := of_ok (xs := [.str "bear", .str "make", .str "make", .str "set", .str "add", .str "drop"]) B (by simp) (by simp)
 obtain ⟨d, rfl, hd⟩ : ∃ d : Str, d0 = .str d ∧ d ∈ dls := by
  simp only [List.mem_cons, List.not_mem_nil, or_false] at m1
  unfold dls
  rcases m1 with z | z | z | z | z | z <;> exact ⟨_, z, by simp⟩
 obtain ⟨k0, h2, e2, m2, D2⟩ := of_ok (xs := ks.map .str) D1.1 (by rw [List.length_map]; exact l0) (by rw [List.length_map]; omega)
 obtain ⟨k, kk, rfl⟩ := List.mem_map.mp m2
 have D12 := D1.trans D2
 let nm : Str := if d = "bear" then ownS k else k
 let τ (x5 : Option AV) : AS := [some (.ref n), some (.fl (ks.map .str)), x2, some (.ref f), p4, x5, some (.str d), some (.str k)]
 have c1 : sPar 6 7 (mCons (mCall c_of (mCons (mVar 0) (mCons (mL kFl (mCons (mC (.str "bear")) (mCons (mC (.str "make")) (mCons (mC (.str "make")) (mCons (mC (.str "set")) (mCons (mC (.str "add")) (mCons (mC (.str "drop")) mNil))))))) mNil))) (mCons (mCall c_of (mCons (mVar 0) (mCons (mVar 1) mNil))) mNil)) [some (.ref n), some (.fl (ks.map .str)), x2, some (.ref f), p4, p5, p6, p7] h = .nx (τ p5) h2 := by
  have pk : plainV (.fl (ks.map AV.str)) = true := rfl
  rw [sPar_ev, asH (v1 := .str d) (cl2 (v1 := .ref n) (v2 := .fl [.str "bear", .str "make", .str "make", .str "set", .str "add", .str "drop"]) (var_ok rfl rfl) rfl e1) (asH (v1 := .str k) (cl2 (v1 := .ref n) (v2 := .fl (ks.map .str)) (var_ok rfl rfl) (var_ok rfl pk) e2) nilH), bindS_ok]
  rfl
 have q6 : ∀ x h, (mB (mBin kEq (mVar 6) (mC (.str "bear")))) (τ x) h = .ok (decide (d = "bear")) h := fun x h => tb_ok (bin2 (v1 := .str d) (v2 := .str "bear") (var_ok rfl rfl) c_ok (kEq_s _ _ h))
 have c2 : sSet 5 (mIf (mB (mBin kEq (mVar 6) (mC (.str "bear")))) (mBin kIx (mM1 kPart (mVar 7) (mC (.str "/"))) (mC (.int 0))) (mVar 7)) (τ p5) h2 = .nx (τ (some (.str nm))) h2 := by
  have : (mIf (mB (mBin kEq (mVar 6) (mC (.str "bear")))) (mBin kIx (mM1 kPart (mVar 7) (mC (.str "/"))) (mC (.int 0))) (mVar 7)) (τ p5) h2 = .ok (.str nm) h2 := by
   rw [mIf_ev, q6, bind_ok]
   by_cases c : d = "bear"
   ·rw [decide_eq_true c, show nm = ownS k from if_pos c]
    exact own_ixk (i := 7) (τ := τ p5) (hk k kk) rfl
   ·rw [decide_eq_false c, show nm = k from if_neg c]
    show (mVar 7) (τ p5) h2 = _
    exact var_ok (v := .str k) rfl rfl
  rw [sSet_ev, this]
  rfl
 obtain ⟨o, h3, e3, D3⟩ : ∃ (o : Option Int) (h3 : AH), (mIf (mB (mBin (kInB false) (mVar 6) (mL kFl (mCons (mC (.str "bear")) (mCons (mC (.str "drop")) mNil))))) (mC .non) (mCall c_value (mCons (mVar 0) mNil))) (τ (some (.str nm))) h2 = .ok (vA o) h3 ∧ Drew n h2 h3 := by
  have qi : (mB (mBin (kInB false) (mVar 6) (mL kFl (mCons (mC (.str "bear")) (mCons (mC (.str "drop")) mNil))))) (τ (some (.str nm))) h2 = .ok (decide (d ∈ (["bear", "drop"] : List Str))) h2 := tb_ok (bin2 (v1 := .str d) (v2 := .fl ((["bear", "drop"] : List Str).map .str)) (var_ok rfl rfl) rfl (kIn_list (xs := ["bear", "drop"]) h2))
  by_cases c : d ∈ (["bear", "drop"] : List Str)
  ·refine ⟨none, h2, ?_, D2.1, rfl, fun _ _ => rfl⟩
   rw [mIf_ev, qi, bind_ok, decide_eq_true c]
   rfl
  ·obtain ⟨v, h3, e3, hv, D3⟩ := value_ok D2.1
   obtain ⟨o, rfl, _⟩ := val_o hv
   refine ⟨o, h3, ?_, D3⟩
   rw [mIf_ev, qi, bind_ok, decide_eq_false c]
   show (mCall c_value (mCons (mVar 0) mNil)) (τ (some (.str nm))) h2 = _
   exact cl1 (v1 := .ref n) (var_ok rfl rfl) e3
 have hf2 : h2[f]? = some (some (.lst (ws.map w3A))) := by rw [D12.2.2 f fn]; exact hf
 have hf3 : h3[f]? = some (some (.lst (ws.map w3A))) := by rw [D3.2.2 f fn]; exact hf2
 have m4 : (mL kTup (mCons (mVar 6) (mCons (mVar 5) (mCons (mIf (mB (mBin (kInB false) (mVar 6) (mL kFl (mCons (mC (.str "bear")) (mCons (mC (.str "drop")) mNil))))) (mC .non) (mCall c_value (mCons (mVar 0) mNil))) mNil)))) (τ (some (.str nm))) h2 = .ok (w3A (d, nm, o)) h3 := by
  rw [mL_ev, asH (v1 := .str d) (var_ok rfl rfl) (asH (v1 := .str nm) (var_ok rfl rfl) (asH (v1 := vA o) e3 nilH)), bind_ok]
  rfl
 have c3 := app_run (i := 3) (m := f) (τ := τ (some (.str nm))) rfl hf2 m4 hf3 (by rw [List.length_map]; omega)
 refine ⟨(d, nm, o), some (.str nm), some (.str d), some (.str k), h3.set f (some (.lst (ws.map w3A ++ [w3A (d, nm, o)]))), ?_, bag_fr D3.1 (by rw [gsn fn]), by rw [at_set hf3, List.map_append]; rfl, cons_own kk, hd, fun j jn jf => by rw [gsn (Ne.symm jf), D3.2.2 j jn, D12.2.2 j jn], by rw [List.length_set, D3.2.1, D12.2.1]⟩
 unfold l0_writes
 rw [sSeq_ev, c1, thn_nx, sSeq_ev, c2, thn_nx]
 exact c3
theorem writes_loop {n f : Nat} {ks : List Str} (hk : ∀ k, k ∈ ks → keyB k = true) (l0 : 0 < ks.length) (lk : ks.length ≤ 50) (fn : f ≠ n) (x2 : Option AV) : ∀ (vs : List AV) (ws : List W3) (h : AH) (p4 p5 p6 p7 : Option AV), BagAt h n → h[f]? = some (some (.lst (ws.map w3A))) → ws.length + vs.length ≤ 1000 → WsOk ks ws →
  ∃ (ws' : List W3) (q4 q5 q6 q7 : Option AV) (h' : AH), forL (gN 4) l0_writes vs [some (.ref n), some (.fl (ks.map .str)), x2, some (.ref f), p4, p5, p6, p7] h = .nx [some (.ref n), some (.fl (ks.map .str)), x2, some (.ref f), q4, q5, q6, q7] h' ∧ BagAt h' n ∧ h'[f]? = some (some (.lst (ws'.map w3A))) ∧ ws'.length = ws.length + vs.length ∧ WsOk ks ws' ∧ (∀ j, j ≠ n → j ≠ f → h'[j]? = h[j]?) ∧ h'.length = h.length
 | [], ws, h, p4, p5, p6, p7, B, hf, _, W => ⟨ws, p4, p5, p6, p7, h, rfl, B, hf, by simp, W, fun _ _ _ => rfl, rfl⟩
 | v :: r, ws, h, p4, p5, p6, p7, B, hf, hl, W => by
  simp only [List.length_cons] at hl
  obtain ⟨w, q5, q6, q7, h1, e1, B1, f1, N, d, k1, n1⟩ := writes_step hk l0 lk fn x2 (some v) p5 p6 p7 B hf (by omega)
  obtain ⟨ws', r4, r5, r6, r7, h2, e2, B2, f2, l2, W2, k2, n2⟩ := writes_loop hk l0 lk fn x2 r (ws ++ [w]) h1 (some v) q5 q6 q7 B1 f1 (by simp; omega) (W.add N d)
  exact ⟨ws', r4, r5, r6, r7, h2, by rw [forL_cons (τ1 := [some (.ref n), some (.fl (ks.map .str)), x2, some (.ref f), some v, p5, p6, p7]) rfl e1]; exact e2, B2, f2, by rw [l2]; simp; omega, W2, fun j a b => (k2 j a b).trans (k1 j a b), n2.trans n1⟩
theorem rng_len (k : Nat) : (rngA 0 (k : Nat)).length = k := by unfold rngA; simp
theorem rOk_nat {k : Nat} (h : k ≤ 60) : rOk (k : Int) = true := by unfold rOk; apply decide_eq_true; omega
theorem rng_run {i : Nat} {τ : AS} {k : Nat} {g : AH} (h : k ≤ 60) (e : τ[i]? = some (some (.int (k : Nat)))) : mRng1 (mCons (mVar i) mNil) τ g = .ok (rngA 0 (k : Nat)) g := by
 rw [mRng1_ev, as1 (v1 := .int (k : Nat)) (var_ok e rfl), bind_ok, fRng1_ev, if_pos (rOk_nat h)]
theorem writes_head {n : Nat} {h : AH} (K V : AV) : sSet 3 (mL kLst mNil) [some (.ref n), some K, some V, none, none, none, none, none] h = .nx [some (.ref n), some K, some V, some (.ref h.length), none, none, none, none] (h ++ [some (.lst [])]) := rfl
theorem writes_run {n : Nat} {h : AH} (K V : AV) : c_writes [.ref n, K, V] h = SRes.fin (b_writes [some (.ref n), some K, some V, none, none, none, none, none] h) := run_fin (N := 3) (K := 8) (m := b_writes) (vs := [.ref n, K, V]) (h := h) (τ := [some (.ref n), some K, some V, none, none, none, none, none]) rfl rfl
theorem writes_fin {n m : Nat} {h h0 h1 h2 : AH} {K V : AV} {R xs : List AV} {q4 q5 q6 q7 : Option AV} (c1 : sSet 3 (mL kLst mNil) [some (.ref n), some K, some V, none, none, none, none, none] h = .nx [some (.ref n), some K, some V, some (.ref m), none, none, none, none] h0)
  (cr : mRng1 (mCons (mVar 2) mNil) [some (.ref n), some K, some V, some (.ref m), none, none, none, none] h0 = .ok R h0) (e1 : forL (gN 4) l0_writes R [some (.ref n), some K, some V, some (.ref m), none, none, none, none] h0 = .nx [some (.ref n), some K, some V, some (.ref m), q4, q5, q6, q7] h1)
  (kl : (mKill (mVar 3)) [some (.ref n), some K, some V, some (.ref m), q4, q5, q6, q7] h1 = .ok (.fl xs) h2) : SRes.fin (b_writes [some (.ref n), some K, some V, none, none, none, none, none] h) = .ok (.fl xs) h2 := by
 unfold b_writes
 rw [sSeq_ev, c1, thn_nx, sSeq_ev, sFor_ev, cr, bindS_ok, fFor_ev, e1, thn_nx, sRet_ev, kl]
 rfl
theorem writes_ok {n : Nat} {ks : List Str} (hk : ∀ k, k ∈ ks → keyB k = true) (l0 : 0 < ks.length) (lk : ks.length ≤ 50) {h : AH} (B : BagAt h n) {k : Nat} (lk2 : k ≤ 60) :
  ∃ (ws : List W3) (h' : AH), c_writes [.ref n, .fl (ks.map .str), .int (k : Nat)] h = .ok (.fl (ws.map w3A)) h' ∧ ws.length = k ∧ WsOk ks ws ∧ BagAt h' n ∧ (∀ j, j < h.length → j ≠ n → h'[j]? = h[j]?) ∧ h'.length = h.length + 1 := by
 have ln := bag_lt B
 let h0 : AH := h ++ [some (.lst [])]
 have f0 : h0[h.length]? = some (some (.lst (([] : List W3).map w3A))) := by show (h ++ _)[h.length]? = _; rw [List.getElem?_append_right (Nat.le_refl _), Nat.sub_self]; rfl
 have k0 : ∀ j, j < h.length → h0[j]? = h[j]? := fun j hj => List.getElem?_append_left hj
 have rl := rng_len k
 obtain ⟨ws, q4, q5, q6, q7, h1, e1, B1, f1, l1, W1, k1, n1⟩ := writes_loop (f := h.length) hk l0 lk (by omega) (some (.int (k : Nat))) (rngA 0 (k : Nat)) [] h0 none none none none (bag_fr B (k0 n ln)) f0 (by rw [rl, List.length_nil]; omega) WsOk.nil
 have n0 : h0.length = h.length + 1 := by simp [h0]
 refine ⟨ws, h1.set h.length none, ?_, by rw [l1, rl]; simp, W1, bag_fr B1 (by rw [gsn (by omega)]), fun j hj jn => by rw [gsn (by omega), k1 j jn (by omega), k0 j hj], by rw [List.length_set, n1, n0]⟩
 have kl : (mKill (mVar 3)) [some (.ref n), some (.fl (ks.map .str)), some (.int (k : Nat)), some (.ref h.length), q4, q5, q6, q7] h1 = .ok (.fl (ws.map w3A)) (h1.set h.length none) := kill_ok (m := h.length) (xs := ws.map w3A) (var_ok (v := .ref h.length) rfl rfl) f1
 rw [writes_run]
 exact writes_fin (writes_head _ _) (rng_run lk2 rfl) e1 kl
theorem cl4x {f : FN} {m1 m2 m3 m4 : ME} {τ : AS} {h : AH} {v1 v2 v3 v4 : AV} {R : Res AV} (e1 : m1 τ h = .ok v1 h) (e2 : m2 τ h = .ok v2 h) (e3 : m3 τ h = .ok v3 h) (e4 : m4 τ h = .ok v4 h) (e : f [v1, v2, v3, v4] h = R) : (mCall f (mCons m1 (mCons m2 (mCons m3 (mCons m4 mNil))))) τ h = R := by
 rw [call_ev, asC e1 (asC e2 (asC e3 (as1 e4))), bind_ok, e]
def LZ (x0 x1 : Option AV) (n : Nat) (K sv : AV) (x5 x6 x7 : Option AV) (r o : Nat) (ch W : AV) (x12 : Option AV) (D m : Nat) (x15 x16 x17 : Option AV) : AS := [x0, x1, some (.ref n), some K, some sv, x5, x6, x7, some (.ref r), some (.ref o), some ch, some W, x12, some (.ref D), some (.int (m : Nat)), x15, x16, x17]
def dueE (e : En) : AV := enV e (.fl (ownL e.2.2.2))
theorem law_step {ks : List Str} (hk : ∀ k, k ∈ ks → keyB k = true) (lk : ks.length ≤ 50) {n r o D : Nat} {cl lo : Str} {K sv W : AV} {t : Nat} {s : SS} {os : List Str} {xs : List AV} {h : AH} {d nm : Str} {v : Option Int} (x0 x1 x5 x6 x7 x15 x16 x17 : Option AV) (L : LwAt h r o s.1 s.2 os) (Q : Qw ks s.1 s.2) (N : NmOk ks d nm) (hd : d ∈ dls) (hD : h[D]? = some (some (.lst xs))) (Dr : D ≠ r) (Do : D ≠ o) (lx : xs.length ≤ 1000) :
  ∃ h' os', l0_law (LZ x0 x1 n K sv x5 x6 x7 r o (.tup [.str cl, .str lo]) W (some (w3A (d, nm, v))) D t x15 x16 x17) h = .nx (LZ x0 x1 n K sv x5 x6 x7 r o (.tup [.str cl, .str lo]) W (some (w3A (d, nm, v))) D (t + 1) (some (osA (reasonF cl lo s d nm v))) (some (toldA (t : Nat) (reasonF cl lo s d nm v))) x17) h' ∧ LwAt h' r o (stpF cl lo s d nm v).1 (stpF cl lo s d nm v).2 os' ∧ Qw ks (stpF cl lo s d nm v).1 (stpF cl lo s d nm v).2 ∧
   h'[D]? = some (some (.lst (xs ++ [dueE (t, reasonF cl lo s d nm v, stpF cl lo s d nm v)]))) ∧ (∀ j, j ≠ r → j ≠ o → j ≠ D → h'[j]? = h[j]?) ∧ h'.length = h.length := by
 obtain ⟨rsn, hrsn⟩ : ∃ q, q = reasonF cl lo s d nm v := ⟨_, rfl⟩
 obtain ⟨s1, hs1⟩ : ∃ q, q = stpF cl lo s d nm v := ⟨_, rfl⟩
 have Q1 : Qw ks s1.1 s1.2 := hs1 ▸ qw_stp hk Q N
 let τ (m : Nat) (y15 y16 : Option AV) : AS := LZ x0 x1 n K sv x5 x6 x7 r o (.tup [.str cl, .str lo]) W (some (w3A (d, nm, v))) D m y15 y16 x17
 have v8 : ∀ m y z g, (mVar 8) (τ m y z) g = .ok (.ref r) g := fun m y z g => var_ok rfl rfl
 have v9 : ∀ m y z g, (mVar 9) (τ m y z) g = .ok (.ref o) g := fun m y z g => var_ok rfl rfl
 have v12 : ∀ m y z g, (mVar 12) (τ m y z) g = .ok (w3A (d, nm, v)) g := fun m y z g => var_ok rfl rfl
 have v10 : ∀ m y z g, (mVar 10) (τ m y z) g = .ok (.tup [.str cl, .str lo]) g := fun m y z g => var_ok rfl rfl
 have c1 : sSet 15 (mCall c_reason (mCons (mVar 8) (mCons (mVar 9) (mCons (mVar 12) (mCons (mVar 10) mNil))))) (τ t x15 x16) h = .nx (τ t (some (osA rsn)) x16) h := by
  rw [sSet_ev, cl4x (v8 _ _ _ _) (v9 _ _ _ _) (v12 _ _ _ _) (v10 _ _ _ _) (lreason_ok (bo := s.2) hk Q L N), ← hrsn]
  rfl
 have isN : ∀ z g, (mB (mBin kIsN (mVar 15) (mC .non))) (τ t (some (osA rsn)) z) g = .ok rsn.isNone g := fun z g => tb_ok (bin2 (v1 := osA rsn) (var_ok rfl pl_os) c_ok (by cases rsn <;> rfl))
 obtain ⟨h1, os1, c2, L1, f1, n1⟩ : ∃ h1 os1, sIf (mB (mBin kIsN (mVar 15) (mC .non))) (sExpr (mCall c_do (mCons (mVar 8) (mCons (mVar 9) (mCons (mVar 12) (mCons (mVar 10) mNil)))))) sSkip (τ t (some (osA rsn)) x16) h = .nx (τ t (some (osA rsn)) x16) h1 ∧ LwAt h1 r o s1.1 s1.2 os1 ∧ (∀ j, j ≠ r → j ≠ o → h1[j]? = h[j]?) ∧ h1.length = h.length := by
  cases e : rsn with
  | none =>
   obtain ⟨h1, os1, e1, L1, f1, n1⟩ := ldo_ok (cl := cl) (lo := lo) (v := v) hk lk Q L N hd (by rw [← e, hrsn])
   have st : s1 = dwF cl (s.1, s.2) d nm v := by rw [hs1]; unfold stpF; rw [← hrsn, e]; rfl
   have isN := isN x16 h
   rw [e] at isN
   refine ⟨h1, os1, ?_, by rw [st]; exact L1, f1, n1⟩
   rw [sIf_ev, isN, bindS_ok, show (none : Option Str).isNone = true from rfl, fIf_t, sExpr_ev, cl4x (v8 _ _ _ _) (v9 _ _ _ _) (v12 _ _ _ _) (v10 _ _ _ _) e1]
   rfl
  | some y =>
   have st : s1 = s := by rw [hs1]; unfold stpF; rw [← hrsn, e]; rfl
   have isN := isN x16 h
   rw [e] at isN
   refine ⟨h, os, ?_, by rw [st]; exact L, fun _ _ _ => rfl, rfl⟩
   rw [sIf_ev, isN, bindS_ok, show (some y : Option Str).isNone = false from rfl]
   rfl
 have c3 : sSet 16 (mIf (mB (mBin kIsN (mVar 15) (mC .non))) (mC .non) (mL kTup (mCons (mVar 14) (mCons (mVar 15) mNil)))) (τ t (some (osA rsn)) x16) h1 = .nx (τ t (some (osA rsn)) (some (toldA (t : Nat) rsn))) h1 := by
  have : (mIf (mB (mBin kIsN (mVar 15) (mC .non))) (mC .non) (mL kTup (mCons (mVar 14) (mCons (mVar 15) mNil)))) (τ t (some (osA rsn)) x16) h1 = .ok (toldA (t : Nat) rsn) h1 := by
   rw [mIf_ev, isN, bind_ok]
   cases e : rsn with
   | none => rfl
   | some y =>
    show (mL kTup (mCons (mVar 14) (mCons (mVar 15) mNil))) (τ t (some (osA (some y))) x16) h1 = _
    exact l2_ok (v1 := .int (t : Nat)) (v2 := .str y) (var_ok rfl rfl) (var_ok rfl rfl) rfl
  rw [sSet_ev, this]
  rfl
 have c4 : sAug 14 (kAugI fun i j => i + j) (mC (.int 1)) (τ t (some (osA rsn)) (some (toldA (t : Nat) rsn))) h1 = .nx (τ (t + 1) (some (osA rsn)) (some (toldA (t : Nat) rsn))) h1 := aug_run rfl
 have hD1 : h1[D]? = some (some (.lst xs)) := by rw [f1 D Dr Do]; exact hD
 have ⟨ql, qb⟩ := Q1.len
 have lo1 := L1.los Q1
 have told_pl : plainV (toldA (t : Nat) rsn) = true := by cases rsn <;> rfl
 have so : kSortF [.ref o] h1 = some (.fl (ownL s1.2), h1) := by
  rw [kSortF_ev, sortO_of (ss := os1) (by simp [seqD, dctA, L1.ho]) (by omega)]
  unfold ownL
  rw [sortA_congr L1.po]
  rfl
 have m4 : (mL kFl (mCons (mVar 16) (mCons (mVar 14) (mCons (mLc [17] (gE 17) (mIt itL (mL kSortF (mCons (mL kListDF (mCons (mVar 8) mNil)) mNil))) mYes (mL kTup (mCons (mVar 17) (mCons (mBin kDGet (mVar 8) (mVar 17)) mNil)))) (mCons (mL kSortF (mCons (mVar 9) mNil)) mNil))))) (τ (t + 1) (some (osA rsn)) (some (toldA (t : Nat) rsn))) h1 = .ok (dueE (t, rsn, s1)) h1 := by
  rw [mL_ev, asH (v1 := toldA (t : Nat) rsn) (var_ok rfl told_pl) (asH (v1 := .int ((t + 1 : Nat))) (var_ok rfl rfl) (asH (v1 := .fl (rowsL s1.1)) (lc_rows L1.hr Q1.il Q1.nl (by omega) (by show (17 : Nat) < 18; decide) (v8 _ _ _ _) (fun k => var_ok rfl rfl)) (asH (v1 := .fl (ownL s1.2)) (l1_ok (v9 _ _ _ _) so) nilH))), bind_ok]
  rfl
 have c5 := app_run (i := 13) (m := D) (τ := τ (t + 1) (some (osA rsn)) (some (toldA (t : Nat) rsn))) rfl hD1 m4 hD1 (by omega)
 rw [← hrsn, ← hs1]
 refine ⟨h1.set D (some (.lst (xs ++ [dueE (t, rsn, s1)]))), os1, ?_, L1.mv (by rw [gsn Dr]) (by rw [gsn Do]), Q1, at_set hD1, fun j jr jo jD => by rw [gsn (Ne.symm jD), f1 j jr jo], by rw [List.length_set, n1]⟩
 show l0_law (τ t x15 x16) h = _
 unfold l0_law
 rw [sSeq_ev, c1, thn_nx]
 unfold q4_law
 rw [sSeq_ev, c2, thn_nx]
 unfold q3_law
 rw [sSeq_ev, c3, thn_nx]
 unfold q2_law
 rw [sSeq_ev, c4, thn_nx]
 exact c5
theorem due_loop {ks : List Str} (hk : ∀ k, k ∈ ks → keyB k = true) (lk : ks.length ≤ 50) {n r o D : Nat} {cl lo : Str} {K sv W : AV} (x0 x1 x5 x6 x7 x17 : Option AV) (Dr : D ≠ r) (Do : D ≠ o) : ∀ (ws : List W3) (t : Nat) (s : SS) (os : List Str) (xs : List AV) (h : AH) (x12 x15 x16 : Option AV), WsOk ks ws → LwAt h r o s.1 s.2 os → Qw ks s.1 s.2 → h[D]? = some (some (.lst xs)) → xs.length + ws.length ≤ 1000 →
  ∃ y12 y15 y16 h' os', forL (gN 12) l0_law (ws.map w3A) (LZ x0 x1 n K sv x5 x6 x7 r o (.tup [.str cl, .str lo]) W x12 D t x15 x16 x17) h = .nx (LZ x0 x1 n K sv x5 x6 x7 r o (.tup [.str cl, .str lo]) W y12 D (t + ws.length) y15 y16 x17) h' ∧ LwAt h' r o (endS cl lo ws s).1 (endS cl lo ws s).2 os' ∧ Qw ks (endS cl lo ws s).1 (endS cl lo ws s).2 ∧
   h'[D]? = some (some (.lst (xs ++ (entS cl lo t ws s).map dueE))) ∧ (∀ j, j ≠ r → j ≠ o → j ≠ D → h'[j]? = h[j]?) ∧ h'.length = h.length
 | [], t, s, os, xs, h, x12, x15, x16, _, L, Q, hD, _ => ⟨x12, x15, x16, h, os, rfl, L, Q, by rw [hD]; simp [entS], fun _ _ _ _ => rfl, rfl⟩
 | (d, nm, v) :: ws, t, s, os, xs, h, x12, x15, x16, Wk, L, Q, hD, hl => by
  simp only [List.length_cons] at hl
  obtain ⟨h1, os1, e1, L1, Q1, D1, f1, n1⟩ := law_step hk lk (n := n) (K := K) (sv := sv) (W := W) (cl := cl) (lo := lo) (t := t) (v := v) x0 x1 x5 x6 x7 x15 x16 x17 L Q (Wk.nm (d, nm, v) (by simp)) (Wk.dl (d, nm, v) (by simp)) hD Dr Do (by omega)
  obtain ⟨y12, y15, y16, h2, os2, e2, L2, Q2, D2, f2, n2⟩ := due_loop hk lk x0 x1 x5 x6 x7 x17 Dr Do ws (t + 1) (stpF cl lo s d nm v) os1 (xs ++ [dueE (t, reasonF cl lo s d nm v, stpF cl lo s d nm v)]) h1 (some (w3A (d, nm, v))) (some (osA (reasonF cl lo s d nm v))) (some (toldA (t : Nat) (reasonF cl lo s d nm v))) ⟨fun w hw => Wk.nm w (by simp [hw]), fun w hw => Wk.dl w (by simp [hw])⟩ L1 Q1 D1 (by simp; omega)
  refine ⟨y12, y15, y16, h2, os2, ?_, L2, Q2, by rw [D2]; simp [entS], fun j a b c => (f2 j a b c).trans (f1 j a b c), n2.trans n1⟩
  rw [List.map_cons, forL_cons (τ1 := LZ x0 x1 n K sv x5 x6 x7 r o (.tup [.str cl, .str lo]) W (some (w3A (d, nm, v))) D t x15 x16 x17) rfl e1, e2, show t + ((d, nm, v) :: ws).length = t + 1 + ws.length from by simp only [List.length_cons]; omega]
theorem home_fld {ks : List Nat} {f a b n : Nat} {cl lo : Str} {t : Int} {r1 r2 : Nat} {v : AV} {τ : AS} {h : AH} (T : BtT h n (stV a b) cl lo t r1 r2) (e : τ[0]? = some (some (.ref n))) (hf : mFld ks f (mC (stV a b)) τ h = .ok v h) : (mFld ks f (mFld [14] 54 (mVar 0))) τ h = .ok v h := by
 have e1 : (mFld [14] 54 (mVar 0)) τ h = .ok (stV a b) h := fld_ins T e rfl rfl
 rw [mFld_ev, e1, bind_ok]
 rw [mFld_ev, c_ok, bind_ok] at hf
 exact hf
theorem kdR {n : Nat} {kvs : List (Key × AV)} {h : AH} (e : h[n]? = some (some (.dk kvs))) : kDictR [.ref n] h = some (.ref h.length, h ++ [some (.dk kvs)]) := by
 rw [kDictR_ev]
 unfold dctOf dctA
 simp only [e]
 rfl
theorem kp_app {h : AH} {x : Option AO} {j : Nat} (hj : j < h.length) : (h ++ [x])[j]? = h[j]? := List.getElem?_append_left hj
theorem enter_ok {h : AH} {a b n : Nat} {cl lo : Str} {t : Int} {r1 r2 : Nat} {A B : List (Key × AV)} (T : BtT h n (stV a b) cl lo t r1 r2) (ha : h[a]? = some (some (.dk A))) (hb : h[b]? = some (some (.dk B))) (na : n ≠ a) (nb : n ≠ b) :
  ∃ h' q1 q2, chk 1 m_Batch__enter [.ref n] h = .ok (.ref n) h' ∧ BtT h' n (stV a b) cl lo 0 q1 q2 ∧ (∀ j, j < h.length → j ≠ n → h'[j]? = h[j]?) ∧ h'.length = h.length + 2 := by
 have ln := at_lt T
 have la := at_lt ha
 have lb := at_lt hb
 let τ : AS := [some (.ref n)]
 let g1 : AH := h ++ [some (.dk A)]
 let h1 : AH := g1.set n (some (.ins 14 (btF (stV a b) cl lo t h.length r2)))
 have T1 : BtT h1 n (stV a b) cl lo t h.length r2 := at_set (show g1[n]? = _ from (kp_app ln).trans T)
 have n1 : h1.length = h.length + 1 := by simp [h1, g1]
 have k1 : ∀ j, j < h.length → j ≠ n → h1[j]? = h[j]? := fun j hj jn => by
  show (g1.set n _)[j]? = _
  rw [gsn (Ne.symm jn)]
  exact kp_app hj
 have e1 : sFldSet [14] 56 (mVar 0) (mL kDictR (mCons (mFld [12, 13] 42 (mFld [14] 54 (mVar 0))) mNil)) τ h = .nx τ h1 := by
  have m : (mL kDictR (mCons (mFld [12, 13] 42 (mFld [14] 54 (mVar 0))) mNil)) τ h = .ok (.ref h.length) g1 := l1_okH (home_fld T rfl rfl) (kdR ha)
  exact fset_run m (var_ok (v := .ref n) rfl rfl) ((kp_app ln).trans T) rfl (by show (6 : Nat) ≤ 900; decide)
 have hb1 : h1[b]? = some (some (.dk B)) := by rw [k1 b lb (Ne.symm nb)]; exact hb
 let g2 : AH := h1 ++ [some (.dk B)]
 let h2 : AH := g2.set n (some (.ins 14 (btF (stV a b) cl lo t h.length h1.length)))
 have ln1 : n < h1.length := by omega
 have T2 : BtT h2 n (stV a b) cl lo t h.length h1.length := at_set (show g2[n]? = _ from (kp_app ln1).trans T1)
 have n2 : h2.length = h.length + 2 := by simp [h2, g2, n1]
 have k2 : ∀ j, j < h.length → j ≠ n → h2[j]? = h[j]? := fun j hj jn => by
  show (g2.set n _)[j]? = _
  rw [gsn (Ne.symm jn)]
  exact (kp_app (by omega)).trans (k1 j hj jn)
 have e2 : sFldSet [14] 57 (mVar 0) (mL kDictR (mCons (mFld [12, 13] 43 (mFld [14] 54 (mVar 0))) mNil)) τ h1 = .nx τ h2 := by
  have m : (mL kDictR (mCons (mFld [12, 13] 43 (mFld [14] 54 (mVar 0))) mNil)) τ h1 = .ok (.ref h1.length) g2 := l1_okH (home_fld T1 rfl rfl) (kdR hb1)
  exact fset_run m (var_ok (v := .ref n) rfl rfl) ((kp_app ln1).trans T1) rfl (by show (6 : Nat) ≤ 900; decide)
 let h3 : AH := h2.set n (some (.ins 14 (btF (stV a b) cl lo 0 h.length h1.length)))
 have e3 : sFldSet [14] 55 (mVar 0) (mC (.int 0)) τ h2 = .nx τ h3 := fset_run c_ok (var_ok (v := .ref n) rfl rfl) T2 rfl (by show (6 : Nat) ≤ 900; decide)
 refine ⟨h3, h.length, h1.length, ?_, at_set T2, fun j hj jn => by show (h2.set n _)[j]? = _; rw [gsn (Ne.symm jn)]; exact k2 j hj jn, by show (h2.set n _).length = _; rw [List.length_set, n2]⟩
 have r0 := run_fin (N := 1) (K := 1) (m := b_Batch__enter) (vs := [.ref n]) (h := h) (τ := τ) rfl rfl
 show chk 1 (runF 1 b_Batch__enter) ([.ref n] ++ []) h = _
 rw [r0]
 unfold b_Batch__enter
 rw [sSeq_ev, e1, thn_nx, sSeq_ev, e2, thn_nx, sSeq_ev, e3, thn_nx, sRet_ev, var_ok (v := .ref n) rfl rfl]
 rfl
theorem exit_ok {h : AH} {n : Nat} : chk 4 m_Batch__exit [.ref n, .non, .non, .non] h = .ok .non h := by
 have r0 := run_fin (N := 4) (K := 4) (m := b_Batch__exit) (vs := [.ref n, .non, .non, .non]) (h := h) (τ := [some (.ref n), some .non, some .non, some .non]) rfl rfl
 show chk 4 (runF 4 b_Batch__exit) ([.ref n, .non, .non, .non] ++ []) h = _
 rw [r0]
 unfold b_Batch__exit
 have c : (mB (mBin kNotN (mVar 1) (mC .non))) [some (.ref n), some .non, some .non, some .non] h = .ok false h := rfl
 rw [if_skip c]
 rfl
theorem ctx_ok {a b : Nat} {cl lo : Str} {τ : AS} (h : AH) : x_in_batch (some (stV a b) :: none :: ([.str cl, .str lo].map some ++ (none :: τ))) h = .ok (.ref h.length) (h ++ [some (.ins 14 (btF (stV a b) cl lo 0 (h.length + 1) (h.length + 2))), some (.dk []), some (.dk [])]) := by
 unfold x_in_batch
 rw [mMetN_ev, var_ok (v := stV a b) rfl pl_st, bind_ok]
 unfold fMetN
 rw [fo_st]
 simp only [show (([((42 : Nat), AV.ref a), (43, .ref b)] : List (Nat × AV)).lookup 53) = none from rfl, Option.isNone_none, and_self, if_true]
 rw [mNil_ev, bind_ok, fMetN1_ev, asC (v1 := .str cl) (var_ok rfl rfl) (as1 (v1 := .str lo) (var_ok rfl rfl)), bind_ok, fMetN2_ev]
 show chk 3 m_Store_batch [stV a b, .str cl, .str lo] h = _
 exact batch_new pl_st cl lo h
theorem inb_ok {ks : List Str} {a b nk : Nat} {pk : List Nat} {zs : List AV} {mk : MA} {cl lo : Str} {ws : List W3} {s : SS} {τ : AS} {h : AH} (hk : ∀ k, k ∈ ks → keyB k = true) (lk : ks.length ≤ 50) (W : WsOk ks ws) (S : Sw ks h a b s.1 s.2) (Q : Qw ks s.1 s.2) (lw : ws.length ≤ 100)
  (t4 : τ[4]? = some (some (stV a b))) (t11 : τ[11]? = some (some (.fl (ws.map w3A)))) (tl : τ.length = 18) (ek : mk τ h = .ok zs h) (nz : zs.length = nk) (pz : pickL pk (zs ++ [.str "refuse", .str "refuse"]) = [.str cl, .str lo]) :
  ∃ h' ys bt r1 r2, mInB 14 nk 4 pk [.str "refuse", .str "refuse"] x_in_batch (chk 1 m_Batch__enter) (chk 4 m_Batch__exit) (mL kFl (mCons (mCall c_seen (mCons (mVar 4) (mCons (mVar 18) (mCons (mVar 11) mNil)))) (mCons (mVar 18) mNil))) (mVar 4) mk τ h = .ok (.fl [.fl ys, .ref bt]) h' ∧
   EnsAt h' 0 (entS cl lo 0 ws s) ys ∧ Sw ks h' a b (endS cl lo ws s).1 (endS cl lo ws s).2 ∧ Qw ks (endS cl lo ws s).1 (endS cl lo ws s).2 ∧ BtT h' bt (stV a b) cl lo (ws.length : Nat) r1 r2 ∧ (∀ j, j < h.length → j ≠ a → j ≠ b → h'[j]? = h[j]?) ∧ h.length ≤ h'.length := by
 have la := at_lt S.ha
 have lb := at_lt S.hb
 obtain ⟨h1, hh1⟩ : ∃ g, g = h ++ [some (AO.ins 14 (btF (stV a b) cl lo 0 (h.length + 1) (h.length + 2))), some (.dk []), some (.dk [])] := ⟨_, rfl⟩
 have n1 : h1.length = h.length + 3 := by rw [hh1]; simp
 have k1 : ∀ j, j < h.length → h1[j]? = h[j]? := fun j hj => by rw [hh1]; exact List.getElem?_append_left hj
 have T1 : BtT h1 h.length (stV a b) cl lo 0 (h.length + 1) (h.length + 2) := by rw [hh1]; exact get_app
 obtain ⟨h2, q1, q2, e2, T2, k2, n2⟩ := enter_ok T1 (by rw [k1 a la]; exact S.ha) (by rw [k1 b lb]; exact S.hb) (by omega) (by omega)
 have S2 : Sw ks h2 a b s.1 s.2 := Q.toPw.sw (by rw [k2 a (by omega) (by omega), k1 a la]; exact S.ha) (by rw [k2 b (by omega) (by omega), k1 b lb]; exact S.hb) S.ab
 obtain ⟨h3, ys, e3, E, S3, Q3, T3, k3, n3⟩ := seen_ok (bt := h.length) hk lk (by omega) (by omega) W S2 Q T2 lw
 refine ⟨h3, ys, h.length, q1, q2, ?_, E.low (by omega), S3, Q3, T3, fun j hj ja jb => by rw [k3 j (by omega) ja jb (by omega), k2 j (by omega) (by omega), k1 j hj], by omega⟩
 have ml : (mL kFl (mCons (mCall c_seen (mCons (mVar 4) (mCons (mVar 18) (mCons (mVar 11) mNil)))) (mCons (mVar 18) mNil))) (τ ++ [some (.ref h.length)]) h2 = .ok (.fl [.fl ys, .ref h.length]) h3 := by
  have v4 : (mVar 4) (τ ++ [some (.ref h.length)]) h2 = .ok (stV a b) h2 := var_ok (by rw [List.getElem?_append_left (by omega)]; exact t4) pl_st
  have v11 : (mVar 11) (τ ++ [some (.ref h.length)]) h2 = .ok (.fl (ws.map w3A)) h2 := var_ok (by rw [List.getElem?_append_left (by omega)]; exact t11) rfl
  have v18 : ∀ g, (mVar 18) (τ ++ [some (.ref h.length)]) g = .ok (.ref h.length) g := fun g => var_ok (by rw [List.getElem?_append_right (by omega), tl]; rfl) rfl
  rw [mL_ev, asH (v1 := .fl ys) (cl3 (v1 := stV a b) (v2 := .ref h.length) (v3 := .fl (ws.map w3A)) v4 (v18 h2) v11 e3) (asH (v1 := .ref h.length) (v18 h3) nilH), bind_ok]
  rfl
 have cx := ctx_ok (a := a) (b := b) (cl := cl) (lo := lo) (τ := τ) h
 rw [← hh1] at cx
 rw [mInB_ev, var_ok (v := stV a b) t4 pl_st, bind_ok]
 unfold fInB1
 rw [ek, bind_ok]
 unfold fInB2
 rw [pz, if_pos ⟨nz, rfl⟩]
 unfold fInB
 rw [cx]
 simp only [fo_ins T1, if_true]
 rw [e2]
 simp only
 rw [ml]
 simp only
 rw [exit_ok]
theorem dat_ref {h : AH} {o n : Nat} {xs : List AV} (e : h[o]? = some (some (.lst xs))) : datH h n (.ref o) = datH h n (.fl xs) := by
 cases n with
 | zero => rfl
 | succ n => simp only [datH, e]
theorem dat_en {h : AH} {n o : Nat} {e : En} (ho : h[o]? = some (some (.lst (ownL e.2.2.2)))) : datH h n (enV e (.ref o)) = datH h n (dueE e) := by
 cases n with
 | zero => rfl
 | succ n =>
  unfold dueE enV
  simp only [datH, List.mapM_cons, dat_ref ho]
theorem ens_mapM {h : AH} {L n : Nat} {es : List En} {ys : List AV} (E : EnsAt h L es ys) : ys.mapM (datH h n) = (es.map dueE).mapM (datH h n) := by
 induction E with
 | nil => rfl
 | cons ho _ _ ih => rw [List.map_cons, List.mapM_cons, List.mapM_cons, dat_en ho, ih]
theorem sf_rows {h : AH} {n : Nat} {l : DL} : SfA h (n + 2) (.fl (rowsL l)) := sf_lst (xs := rowsL l) rfl fun x hx => by
 unfold rowsL at hx
 obtain ⟨k, _, rfl⟩ := List.mem_map.mp hx
 refine sf_tup fun z hz => ?_
 simp only [List.mem_cons, List.not_mem_nil, or_false] at hz
 rcases hz with rfl | rfl
 ·exact sf_str _
 ·exact sf_int _
theorem sf_owns {h : AH} {n : Nat} {bo : DL} : SfA h (n + 1) (.fl (ownL bo)) := sf_lst (xs := ownL bo) rfl fun x hx => by
 obtain ⟨k, _, rfl⟩ := List.mem_map.mp hx
 exact sf_str k
theorem sf_due {h : AH} {n : Nat} (e : En) : SfA h (n + 3) (dueE e) := sf_lst (xs := [toldA (e.1 : Nat) e.2.1, .int (e.1 + 1 : Nat), .fl (rowsL e.2.2.1), .fl (ownL e.2.2.2)]) rfl fun x hx => by
 simp only [List.mem_cons, List.not_mem_nil, or_false] at hx
 rcases hx with rfl | rfl | rfl | rfl
 ·cases e.2.1 with
  | none => exact sf_non
  | some y =>
   refine sf_tup fun z hz => ?_
   simp only [List.mem_cons, List.not_mem_nil, or_false] at hz
   rcases hz with rfl | rfl
   ·exact sf_int _
   ·exact sf_str _
 ·exact sf_int _
 ·exact sf_rows
 ·exact sf_owns
theorem told_ne {h : AH} {L D : Nat} {es : List En} {ys : List AV} (E : EnsAt h L es ys) (hD : h[D]? = some (some (.lst (es.map dueE)))) : kNeH (.fl ys) (.ref D) h = some (.bl false, h) := by
 obtain ⟨ds, e, q⟩ := sf_all (h := h) (n := 11) (xs := es.map dueE) fun x hx => by
  obtain ⟨y, _, rfl⟩ := List.mem_map.mp hx
  exact sf_due y
 rw [kNeH_of (datH_lst (v := .fl ys) rfl ((ens_mapM E).trans e)) (datH_lst (lst_of hD) e)]
 simp only [PyData.eqv, q]
 rfl
theorem eq_two2 (a b c d : Str) (h : AH) : kEqH (.tup [.str a, .str b]) (.tup [.str c, .str d]) h = some (.bl (decide (a = c) && decide (b = d)), h) := by
 rw [kEqH_of (d := .tuple [.str a, .str b]) (e := .tuple [.str c, .str d]) rfl rfl]
 have e : ∀ x y : Str, (x == y) = decide (x = y) := fun x y => by
  by_cases z : x = y
  ·rw [decide_eq_true z, z]; exact beq_self_eq_true y
  ·rw [decide_eq_false z]; exact beq_eq_false_iff_ne.mpr z
 simp [PyData.eqv, PyData.eqvAll, e]
structure St12 (ks : List Str) (n a b r o : Nat) (h : AH) (s : SS) (os : List Str) : Prop where
 B : BagAt h n
 S : Sw ks h a b s.1 s.2
 Q : Qw ks s.1 s.2
 L : LwAt h r o s.1 s.2 os
 na : n ≠ a
 nb : n ≠ b
 nr : n ≠ r
 no : n ≠ o
 ar : a ≠ r
 ao : a ≠ o
 br : b ≠ r
 b_o : b ≠ o
theorem St12.mv {ks : List Str} {n a b r o : Nat} {h h' : AH} {s : SS} {os : List Str} (T : St12 ks n a b r o h s os) (B : BagAt h' n) (f : ∀ j, j < h.length → j ≠ n → h'[j]? = h[j]?) : St12 ks n a b r o h' s os :=
 ⟨B, T.Q.toPw.sw (by rw [f a (at_lt T.S.ha) (Ne.symm T.na)]; exact T.S.ha) (by rw [f b (at_lt T.S.hb) (Ne.symm T.nb)]; exact T.S.hb) T.S.ab, T.Q, T.L.mv (f r (at_lt T.L.hr) (Ne.symm T.nr)) (f o (at_lt T.L.ho) (Ne.symm T.no)), T.na, T.nb, T.nr, T.no, T.ar, T.ao, T.br, T.b_o⟩
theorem turn_ok {ks : List Str} (hk : ∀ k, k ∈ ks → keyB k = true) (lk : ks.length ≤ 50) (l0 : 0 < ks.length) {n a b r o : Nat} {h : AH} {s : SS} {os : List Str} (T : St12 ks n a b r o h s os) (x0 x1 x5 x6 x7 x10 x11 x12 x13 x14 x15 x16 x17 : Option AV) :
  ∃ y10 y11 y12 y13 y14 y15 y16 h' s' os', l1_law [x0, x1, some (.ref n), some (.fl (ks.map .str)), some (stV a b), x5, x6, x7, some (.ref r), some (.ref o), x10, x11, x12, x13, x14, x15, x16, x17] h = .nx [x0, x1, some (.ref n), some (.fl (ks.map .str)), some (stV a b), x5, x6, x7, some (.ref r), some (.ref o), y10, y11, y12, y13, y14, y15, y16, x17] h' ∧ St12 ks n a b r o h' s' os' := by
 obtain ⟨c0, h1, e1, m1, D1⟩ := of_ok (xs := [.str "refuse", .str "pass", .str "take"]) T.B (by simp) (by simp)
 obtain ⟨cl, rfl⟩ : ∃ cl : Str, c0 = .str cl := by
  simp only [List.mem_cons, List.not_mem_nil, or_false] at m1
  rcases m1 with z | z | z <;> exact ⟨_, z⟩
 obtain ⟨c0, h2, e2, m2, D2⟩ := of_ok (xs := [.str "refuse", .str "pass"]) D1.1 (by simp) (by simp)
 obtain ⟨lo, rfl⟩ : ∃ lo : Str, c0 = .str lo := by
  simp only [List.mem_cons, List.not_mem_nil, or_false] at m2
  rcases m2 with z | z <;> exact ⟨_, z⟩
 obtain ⟨d, h3, e3, d0, d1, D3⟩ := take_ok (k := 21) D2.1 (by omega) (by omega)
 obtain ⟨d, rfl⟩ : ∃ i : Nat, d = (i : Int) := ⟨d.toNat, by omega⟩
 have D13 := (D1.trans D2).trans D3
 obtain ⟨ws, h4, e4, lw, W, B4, k4, n4⟩ := writes_ok hk l0 lk D3.1 (k := d) (by omega)
 have f14 : ∀ j, j < h.length → j ≠ n → h4[j]? = h[j]? := fun j hj jn => by rw [k4 j (by rw [D13.2.1]; exact hj) jn, D13.2.2 j jn]
 have T4 := T.mv B4 f14
 obtain ⟨K, hK⟩ : ∃ K : AV, K = .fl (ks.map .str) := ⟨_, rfl⟩
 have pK : plainV K = true := by rw [hK]; rfl
 let υ (y10 y11 y13 y14 : Option AV) : AS := [x0, x1, some (.ref n), some K, some (stV a b), x5, x6, x7, some (.ref r), some (.ref o), y10, y11, x12, y13, y14, x15, x16, x17]
 have c1 : sSet 10 (mL kTup (mCons (mCall c_of (mCons (mVar 2) (mCons (mL kFl (mCons (mC (.str "refuse")) (mCons (mC (.str "pass")) (mCons (mC (.str "take")) mNil)))) mNil))) (mCons (mCall c_of (mCons (mVar 2) (mCons (mL kFl (mCons (mC (.str "refuse")) (mCons (mC (.str "pass")) mNil))) mNil))) mNil))) (υ x10 x11 x13 x14) h = .nx (υ (some (.tup [.str cl, .str lo])) x11 x13 x14) h2 := by
  rw [sSet_ev, mL_ev, asH (v1 := .str cl) (cl2 (v1 := .ref n) (v2 := .fl [.str "refuse", .str "pass", .str "take"]) (var_ok rfl rfl) rfl e1) (asH (v1 := .str lo) (cl2 (v1 := .ref n) (v2 := .fl [.str "refuse", .str "pass"]) (var_ok rfl rfl) rfl e2) nilH), bind_ok]
  rfl
 rw [← hK] at e4
 have c2 : sSet 11 (mCall c_writes (mCons (mVar 2) (mCons (mVar 3) (mCons (mCall c_take (mCons (mVar 2) (mCons (mC (.int 21)) mNil))) mNil)))) (υ (some (.tup [.str cl, .str lo])) x11 x13 x14) h2 = .nx (υ (some (.tup [.str cl, .str lo])) (some (.fl (ws.map w3A))) x13 x14) h4 := by
  have m : (mCall c_writes (mCons (mVar 2) (mCons (mVar 3) (mCons (mCall c_take (mCons (mVar 2) (mCons (mC (.int 21)) mNil))) mNil)))) (υ (some (.tup [.str cl, .str lo])) x11 x13 x14) h2 = .ok (.fl (ws.map w3A)) h4 := by
   rw [call_ev, asH (v1 := .ref n) (var_ok rfl rfl) (asH (v1 := K) (var_ok rfl pK) (asH (v1 := .int (d : Nat)) (cl2 (v1 := .ref n) (v2 := .int 21) (var_ok rfl rfl) c_ok e3) nilH)), bind_ok, e4]
  rw [sSet_ev, m]
  rfl
 have W0 : (.fl (ws.map w3A) : AV) = .fl (ws.map w3A) := rfl
 let h5 : AH := h4 ++ [some (.lst [])]
 have c3 : sPar 13 14 (mCons (mL kLst mNil) (mCons (mC (.int 0)) mNil)) (υ (some (.tup [.str cl, .str lo])) (some (.fl (ws.map w3A))) x13 x14) h4 = .nx (LZ x0 x1 n K (stV a b) x5 x6 x7 r o (.tup [.str cl, .str lo]) (.fl (ws.map w3A)) x12 h4.length 0 x15 x16 x17) h5 := by
  rw [sPar_ev, asH (v1 := .ref h4.length) (h1 := h5) rfl (asH (v1 := .int 0) c_ok nilH), bindS_ok]
  rfl
 have k5 : ∀ j, j < h4.length → h5[j]? = h4[j]? := fun j hj => List.getElem?_append_left hj
 have la := at_lt T4.S.ha
 have lb := at_lt T4.S.hb
 have lr := at_lt T4.L.hr
 have lo' := at_lt T4.L.ho
 have ln := bag_lt T4.B
 have hD5 : h5[h4.length]? = some (some (.lst [])) := by show (h4 ++ _)[h4.length]? = _; rw [List.getElem?_append_right (Nat.le_refl _), Nat.sub_self]; rfl
 have T5 := T4.mv (h' := h5) (bag_fr B4 (k5 n ln)) fun j hj _ => k5 j hj
 obtain ⟨y12, y15, y16, h6, os6, e6, L6, Q6, D6, f6, n6⟩ := due_loop hk lk (n := n) (r := r) (o := o) (D := h4.length) (cl := cl) (lo := lo) (K := K) (sv := stV a b) (W := .fl (ws.map w3A)) x0 x1 x5 x6 x7 x17 (by omega) (by omega) ws 0 s os [] h5 x12 x15 x16 W T5.L T5.Q hD5 (by simp; omega)
 rw [List.nil_append] at D6
 have n5 : h5.length = h4.length + 1 := by simp [h5]
 have S6 : Sw ks h6 a b s.1 s.2 := T.Q.toPw.sw (by rw [f6 a T.ar T.ao (by omega)]; exact T5.S.ha) (by rw [f6 b T.br T.b_o (by omega)]; exact T5.S.hb) T.S.ab
 let τ6 (z : Option AV) : AS := LZ x0 x1 n K (stV a b) x5 x6 x7 r o (.tup [.str cl, .str lo]) (.fl (ws.map w3A)) y12 h4.length (0 + ws.length) y15 z x17
 have c4 : sFor (gN 12) (mIt itL (mVar 11)) l0_law (LZ x0 x1 n K (stV a b) x5 x6 x7 r o (.tup [.str cl, .str lo]) (.fl (ws.map w3A)) x12 h4.length 0 x15 x16 x17) h5 = .nx (τ6 y16) h6 := by
  rw [sFor_ev, it_fl (vs := ws.map w3A) rfl, bindS_ok, fFor_ev]
  exact e6
 have cq : (mB (mBin kEqH (mVar 10) (mL kTup (mCons (mC (.str "refuse")) (mCons (mC (.str "refuse")) mNil))))) (τ6 y16) h6 = .ok (decide (cl = "refuse") && decide (lo = "refuse")) h6 := tb_ok (bin2 (v1 := .tup [.str cl, .str lo]) (v2 := .tup [.str "refuse", .str "refuse"]) (var_ok rfl rfl) rfl (eq_two2 _ _ _ _ _))
 obtain ⟨h7, ys, bt, r1, r2, c5, E, S7, Q7, T7, k7, n7⟩ : ∃ h7 ys bt r1 r2, sIf (mB (mBin kEqH (mVar 10) (mL kTup (mCons (mC (.str "refuse")) (mCons (mC (.str "refuse")) mNil))))) (sSet 16 (mInB 14 0 4 [0, 1] [.str "refuse", .str "refuse"] x_in_batch (chk 1 m_Batch__enter) (chk 4 m_Batch__exit) (mL kFl (mCons (mCall c_seen (mCons (mVar 4) (mCons (mVar 18) (mCons (mVar 11) mNil)))) (mCons (mVar 18) mNil))) (mVar 4) mNil)) (sSet 16 (mInB 14 2 4 [1, 0] [.str "refuse", .str "refuse"] x_in_batch (chk 1 m_Batch__enter) (chk 4 m_Batch__exit) (mL kFl (mCons (mCall c_seen (mCons (mVar 4) (mCons (mVar 18) (mCons (mVar 11) mNil)))) (mCons (mVar 18) mNil))) (mVar 4) (mCons (mBin kIx (mVar 10) (mC (.int 1))) (mCons (mBin kIx (mVar 10) (mC (.int 0))) mNil)))) (τ6 y16) h6 = .nx (τ6 (some (.fl [.fl ys, .ref bt]))) h7 ∧
   EnsAt h7 0 (entS cl lo 0 ws s) ys ∧ Sw ks h7 a b (endS cl lo ws s).1 (endS cl lo ws s).2 ∧ Qw ks (endS cl lo ws s).1 (endS cl lo ws s).2 ∧ BtT h7 bt (stV a b) cl lo (ws.length : Nat) r1 r2 ∧ (∀ j, j < h6.length → j ≠ a → j ≠ b → h7[j]? = h6[j]?) ∧ h6.length ≤ h7.length := by
  have i0 : (mBin kIx (mVar 10) (mC (.int 0))) (τ6 y16) h6 = .ok (.str cl) h6 := bin2 (v1 := .tup [.str cl, .str lo]) (v2 := .int 0) (var_ok rfl rfl) c_ok rfl
  have i1 : (mBin kIx (mVar 10) (mC (.int 1))) (τ6 y16) h6 = .ok (.str lo) h6 := bin2 (v1 := .tup [.str cl, .str lo]) (v2 := .int 1) (var_ok rfl rfl) c_ok rfl
  by_cases c : cl = "refuse" ∧ lo = "refuse"
  ·obtain ⟨rfl, rfl⟩ := c
   obtain ⟨h7, ys, bt, r1, r2, e7, E, S7, Q7, T7, k7, n7⟩ := inb_ok (ks := ks) (pk := [0, 1]) (nk := 0) (zs := []) (mk := mNil) (cl := "refuse") (lo := "refuse") (τ := τ6 y16) (h := h6) hk lk W S6 T.Q (by omega) rfl rfl rfl nilH rfl rfl
   refine ⟨h7, ys, bt, r1, r2, ?_, E, S7, Q7, T7, k7, n7⟩
   rw [sIf_ev, cq, bindS_ok, decide_eq_true rfl, Bool.and_self, fIf_t, sSet_ev, e7]
   rfl
  ·obtain ⟨h7, ys, bt, r1, r2, e7, E, S7, Q7, T7, k7, n7⟩ := inb_ok (ks := ks) (pk := [1, 0]) (nk := 2) (zs := [.str lo, .str cl]) (mk := mCons (mBin kIx (mVar 10) (mC (.int 1))) (mCons (mBin kIx (mVar 10) (mC (.int 0))) mNil)) (cl := cl) (lo := lo) (τ := τ6 y16) (h := h6) hk lk W S6 T.Q (by omega) rfl rfl rfl (asC i1 (as1 i0)) rfl rfl
   refine ⟨h7, ys, bt, r1, r2, ?_, E, S7, Q7, T7, k7, n7⟩
   have cf : (decide (cl = "refuse") && decide (lo = "refuse")) = false := by
    rw [Bool.eq_false_iff]
    intro z
    rw [Bool.and_eq_true] at z
    exact c ⟨of_decide_eq_true z.1, of_decide_eq_true z.2⟩
   rw [sIf_ev, cq, bindS_ok, cf, fIf_f, sSet_ev, e7]
   rfl
 have D7 : h7[h4.length]? = some (some (.lst ((entS cl lo 0 ws s).map dueE))) := by rw [k7 _ (by omega) (by omega) (by omega)]; exact D6
 have p16 : plainV (.fl [.fl ys, .ref bt]) = true := rfl
 have j0 : (mBin kIx (mVar 16) (mC (.int 0))) (τ6 (some (.fl [.fl ys, .ref bt]))) h7 = .ok (.fl ys) h7 := bin2 (v1 := .fl [.fl ys, .ref bt]) (v2 := .int 0) (var_ok rfl p16) c_ok rfl
 have j1 : (mBin kIx (mVar 16) (mC (.int 1))) (τ6 (some (.fl [.fl ys, .ref bt]))) h7 = .ok (.ref bt) h7 := bin2 (v1 := .fl [.fl ys, .ref bt]) (v2 := .int 1) (var_ok rfl p16) c_ok rfl
 have qA : (mB (mBin kNeH (mBin kIx (mVar 16) (mC (.int 0))) (mVar 13))) (τ6 (some (.fl [.fl ys, .ref bt]))) h7 = .ok false h7 := tb_ok (bin2 (v1 := .fl ys) (v2 := .ref h4.length) j0 (var_ok rfl rfl) (told_ne E D7))
 have jf : (mFld [14] 55 (mBin kIx (mVar 16) (mC (.int 1)))) (τ6 (some (.fl [.fl ys, .ref bt]))) h7 = .ok (.int (ws.length : Nat)) h7 := by
  rw [mFld_ev, j1, bind_ok]
  unfold fFld
  rw [fo_ins T7]
  rfl
 have qB : (mB (mBin kNeH (mFld [14] 55 (mBin kIx (mVar 16) (mC (.int 1)))) (mVar 14))) (τ6 (some (.fl [.fl ys, .ref bt]))) h7 = .ok false h7 := tb_ok (bin2 (v1 := .int (ws.length : Nat)) (v2 := .int ((0 + ws.length : Nat))) jf (var_ok rfl rfl) (by rw [kNeH_int, Nat.zero_add, decide_eq_true rfl]; rfl))
 have c6 : q5_law (τ6 (some (.fl [.fl ys, .ref bt]))) h7 = .nx (τ6 (some (.fl [.fl ys, .ref bt]))) h7 := by
  unfold q5_law
  exact if_skip (or_b qA qB)
 refine ⟨some (.tup [.str cl, .str lo]), some (.fl (ws.map w3A)), y12, some (.ref h4.length), some (.int ((0 + ws.length : Nat))), y15, some (.fl [.fl ys, .ref bt]), h7, endS cl lo ws s, os6, ?_, ⟨?_, S7, Q7, L6.mv (k7 r (by omega) (Ne.symm T.ar) (Ne.symm T.br)) (k7 o (by omega) (Ne.symm T.ao) (Ne.symm T.b_o)), T.na, T.nb, T.nr, T.no, T.ar, T.ao, T.br, T.b_o⟩⟩
 ·rw [← hK]
  show l1_law (υ x10 x11 x13 x14) h = .nx (τ6 (some (.fl [.fl ys, .ref bt]))) h7
  unfold l1_law
  rw [sSeq_ev, c1, thn_nx]
  unfold q9_law
  rw [sSeq_ev, c2, thn_nx]
  unfold q8_law
  rw [sSeq_ev, c3, thn_nx]
  unfold q7_law
  rw [sSeq_ev, c4, thn_nx]
  unfold q6_law
  rw [sSeq_ev, c5, thn_nx]
  exact c6
 ·exact bag_fr T5.B (by rw [k7 n (by omega) T.na T.nb, f6 n T.nr T.no (by omega)])
end Bo
end Wk12
namespace Wk12
open PySem PySem.Spec PyProof.Rows L2 PI
namespace Bo
def Inv (S : AV) (τ : AS) (_ : AH) : Prop := ∃ ys : AS, ys.length = 17 ∧ τ = some S :: ys
theorem pairs_dict {r : Nat} {rs : List (Str × Int)} {h : AH} (e : h[r]? = some (some (.lst (rs.map rowP)))) (nd : (rs.map (·.1)).Nodup) (lr : rs.length ≤ 1000) : kDictR [.ref r] h = some (.ref h.length, h ++ [some (.dk (gD (rsL rs)))]) := by
 have rt : rs.map rowP = (rsL rs).map fun p => AV.tup [.str p.1, p.2] := by
  unfold rsL
  rw [List.map_map]
  rfl
 have q : dctOf (.ref r) h = some (gD (rsL rs)) := by
  unfold dctOf
  rw [show dctA (.ref r) h = none from by simp [dctA, e]]
  simp only
  rw [lst_of e, Option.bind_some, if_pos (small_of (by rw [List.length_map]; omega)), rt, mapM_pair, Option.map_some]
  have nn : (ksL (rsL rs)).Nodup := by rw [ks_rs]; exact nd
  have := merge_rows (rsL rs) [] nn
  rw [show gD [] = [] from rfl, List.nil_append] at this
  rw [this]
 rw [kDictR_ev, q]
 rfl
theorem body_ok (sc : List Int) (hn : sc.length ≤ 63) (at' : Nat) (ha : at' < 1000) (p2 p3 p4 p5 p6 p7 p8 p9 p10 p11 p12 p13 p14 p15 p16 p17 : Option AV) (h : AH) :
    Goon (Inv (.fl (sc.map .int))) (l2_law [some (.fl (sc.map .int)), some (.int (at' : Nat)), p2, p3, p4, p5, p6, p7, p8, p9, p10, p11, p12, p13, p14, p15, p16, p17] h) := by
  obtain ⟨bo0, e1, B1⟩ := bag_ok sc hn at' ha h
  generalize hh : h ++ [some bo0] = h1 at e1 B1
  generalize hnn : h.length = n at e1 B1
  generalize hS : AV.fl (sc.map .int) = S at *
  have pS : plainV S = true := by rw [← hS]; rfl
  obtain ⟨d, h2, e2, d0, d1, D2⟩ := take_ok (k := 6) B1 (by omega) (by omega)
  obtain ⟨d, rfl⟩ : ∃ i : Nat, d = (i : Int) := ⟨d.toNat, by omega⟩
  obtain ⟨ks, h3, e3, lks, hk, nk, B3, F3⟩ := keys_ok D2.1 (k := 1 + d) (by omega)
  have e3' : c_keys [.ref n, .int (1 + (d : Int))] h2 = .ok (.fl (ks.map .str)) h3 := by rw [show (1 + (d : Int)) = ((1 + d : Nat) : Int) from by omega]; exact e3
  have lk : ks.length ≤ 6 := by omega
  obtain ⟨K, hK⟩ : ∃ K : AV, K = .fl (ks.map .str) := ⟨_, rfl⟩
  have pK : plainV K = true := by rw [hK]; rfl
  obtain ⟨ls, g1, e8, B8, er8, l8, k8, rg, sb⟩ := rows_ok B3 (ks := ks) (by omega)
  obtain ⟨ns, g2, e9, B9, em9, l9, k9, og, ol⟩ := owners_ok B8 (ks := ks) hk (by omega)
  have n3 := bag_lt B3
  have lr := sb.length_le
  rw [List.length_map] at lr
  have fb : ∀ y, y ∈ ns → fitB y = true := fun y hy => by
    obtain ⟨k, hk1, e⟩ := og y hy
    rw [e]
    exact own_fit (hk k hk1)
  have hg : ∀ p, p ∈ ls → p.1 ∈ ks ∧ -GR ≤ p.2 ∧ p.2 ≤ GR := fun p hp => ⟨sb.subset (List.mem_map.mpr ⟨p, hp, rfl⟩), rg p hp⟩
  have nd := nk.sublist sb
  have i1 := init_ok hk (V1 := .ref h3.length) (V2 := .ref g1.length) (rs := ls) (ns := ns) (h := g2) (.inr (.inr ⟨_, rfl, by rw [k9 _ (by omega) (by omega)]; exact er8⟩)) (.inr (.inr ⟨_, rfl, em9⟩)) hg nd (by omega) fb (by omega)
  obtain ⟨g3, hg3⟩ : ∃ g3, g3 = g2 ++ [some (AO.dk (gD (rsL ls)))] ++ [some (AO.dk (gD (bornO ls ns)))] := ⟨_, rfl⟩
  rw [← hg3] at i1
  have kp3 : Kp g2 g3 := by rw [hg3]; exact Kp.app.trans Kp.app
  have l3 : g3.length = g2.length + 2 := by rw [hg3]; simp
  have lbo : (bornO ls ns).length < 20 := by
    have b1 := born_len ns (bornL ((ls.map (·.1)).map ownS) [])
    have b2 := born_len ((ls.map (·.1)).map ownS) []
    simp only [List.length_map, List.length_nil] at b2
    show (bornL ns (bornL ((ls.map (·.1)).map ownS) [])).length < 20
    omega
  have lls : (rsL ls).length < 20 := by unfold rsL; rw [List.length_map]; omega
  have tb : TruL (bornO ls ns) := born_tru _ _ (born_tru _ _ fun q hq => by simp at hq)
  have nbo : (ksL (bornO ls ns)).Nodup := born_nd _ _ (born_nd _ _ (by simp [ksL]))
  have fbo : ∀ x, x ∈ ksL (bornO ls ns) → fitB x = true := fun x hx => by
    unfold bornO at hx
    rw [born_mem, born_mem] at hx
    rcases hx with q | q | q
    · exact fb x q
    · obtain ⟨k, hk1, rfl⟩ := List.mem_map.mp q
      exact own_fit (hk k (sb.subset hk1))
    · simp [ksL] at q
  have ow : ∀ x, x ∈ ksL (rsL ls) → ownS x ∈ ksL (bornO ls ns) := fun x hx => by
    rw [ks_rs] at hx
    unfold bornO
    rw [born_mem, born_mem]
    exact .inr (.inl (List.mem_map.mpr ⟨x, hx, rfl⟩))
  have Q3 : Qw ks (rsL ls) (bornO ls ns) := ⟨⟨int_rs hk hg, tb, by rw [ks_rs]; exact nd, nbo, fbo, ow⟩, fun x hx => by
    unfold bornO at hx
    rw [born_mem, born_mem] at hx
    rcases hx with q | q | q
    · obtain ⟨k, hk1, rfl⟩ := og x q
      exact List.mem_map_of_mem hk1
    · obtain ⟨k, hk1, rfl⟩ := List.mem_map.mp q
      exact List.mem_map_of_mem (sb.subset hk1)
    · simp [ksL] at q⟩
  have n9 := bag_lt B9
  have B3' : BagAt g3 n := bag_fr B9 (kp3.keep n n9)
  have B5 : BagAt g3 n := B3'
  obtain ⟨a, hga⟩ : ∃ a, a = g2.length := ⟨_, rfl⟩
  rw [← hga] at i1 l3
  have ha3 : g3[a]? = some (some (.dk (gD (rsL ls)))) := by rw [hg3, hga]; simp
  have hb3 : g3[a + 1]? = some (some (.dk (gD (bornO ls ns)))) := by rw [hg3, hga]; simp
  have hr3 : g3[h3.length]? = some (some (.lst (ls.map rowP))) := kp3.at (by rw [k9 _ (by omega) (by omega)]; exact er8)
  have dr := pairs_dict hr3 nd (by omega)
  let g4 : AH := g3 ++ [some (.dk (gD (rsL ls)))]
  have l4 : g4.length = a + 3 := by simp [g4, l3]
  have k4 : ∀ j, j < g3.length → g4[j]? = g3[j]? := fun j hj => List.getElem?_append_left hj
  have own := zowns_ok (h := g4) (a := a) (b := a + 1) (bo := bornO ls ns) (by rw [k4 _ (by omega)]; exact hb3) (by omega)
  let g5 : AH := g4 ++ [some (.lst (ownL (bornO ls ns)))]
  have l5 : g5.length = a + 4 := by simp [g5, l4]
  have k5 : ∀ j, j < g4.length → g5[j]? = g4[j]? := fun j hj => List.getElem?_append_left hj
  have k35 : ∀ j, j < g3.length → g5[j]? = g3[j]? := fun j hj => by rw [k5 j (by omega), k4 j hj]
  have r5 : g5[a + 2]? = some (some (.dk (gD (rsL ls)))) := by
    rw [k5 _ (by omega)]
    show (g3 ++ _)[a + 2]? = _
    rw [← l3, List.getElem?_append_right (Nat.le_refl _), Nat.sub_self]
    rfl
  have o5 : g5[a + 3]? = some (some (.lst (ownL (bornO ls ns)))) := by
    show (g4 ++ _)[a + 3]? = _
    rw [← l4, List.getElem?_append_right (Nat.le_refl _), Nat.sub_self]
    rfl
  have an : n < a := by omega
  have T0 : St12 ks n a (a + 1) (a + 2) (a + 3) g5 (rsL ls, bornO ls ns) (sortA (ksL (bornO ls ns))) := ⟨bag_fr B5 (k35 n (by omega)), Q3.toPw.sw (by rw [k35 a (by omega)]; exact ha3) (by rw [k35 (a + 1) (by omega)]; exact hb3) (by omega), Q3, ⟨r5, o5, by omega, (sortA_perm _).symm⟩, by omega, by omega, by omega, by omega, by omega, by omega, by omega, by omega⟩
  let τ (x3 x4 x5 x6 x7 x8 x9 : Option AV) : AS := [some S, some (.int (at' : Nat)), some (.ref n), x3, x4, x5, x6, x7, x8, x9, p10, p11, p12, p13, p14, p15, p16, p17]
  refine goon_set (v := .ref n) (h1 := h1) (cl2 (v1 := S) (v2 := .int (at' : Nat)) (var_ok rfl pS) (var_ok rfl rfl) e1) (by simp) ?_
  show Goon _ (q16_law (τ p3 p4 p5 p6 p7 p8 p9) h1)
  unfold q16_law
  rw [← hK] at e3'
  refine goon_set (v := K) (h1 := h3) (cl2 (v1 := .ref n) (var_ok rfl rfl) (bin2 (v1 := .int 1) c_ok (cl2 (v1 := .ref n) (var_ok rfl rfl) c_ok e2) rfl) e3') (by simp [τ]) ?_
  show Goon _ (q15_law (τ (some K) p4 p5 p6 p7 p8 p9) h3)
  unfold q15_law
  rw [← hK] at e8 e9
  refine goon_par (v1 := .ref h3.length) (v2 := .ref g1.length) (h1 := g1) (h2 := g2) (cl2 (v1 := .ref n) (v2 := K) (var_ok rfl rfl) (var_ok rfl pK) e8) (cl2 (v1 := .ref n) (v2 := K) (var_ok rfl rfl) (var_ok rfl pK) e9) ⟨by simp [τ], by simp [τ]⟩ ?_
  show Goon _ (q14_law (τ (some K) p4 p5 (some (.ref h3.length)) (some (.ref g1.length)) p8 p9) g2)
  unfold q14_law
  refine goon_set (mkN_st (v1 := .ref h3.length) (v2 := .ref g1.length) (var_ok rfl rfl) (var_ok rfl rfl) i1) (by simp [τ]) ?_
  show Goon _ (q13_law (τ (some K) (some (stV a (a + 1))) p5 (some (.ref h3.length)) (some (.ref g1.length)) p8 p9) g3)
  have c13 : sAsg (gT 2 (gsCons (gN 8) (gsCons (gN 9) gsNil))) (mL kTup (mCons (mL kDictR (mCons (mVar 6) mNil)) (mCons (mMet 13 48 c_Store_all_owners (mVar 4) mNil) mNil))) (τ (some K) (some (stV a (a + 1))) p5 (some (.ref h3.length)) (some (.ref g1.length)) p8 p9) g3 = .nx (τ (some K) (some (stV a (a + 1))) p5 (some (.ref h3.length)) (some (.ref g1.length)) (some (.ref (a + 2))) (some (.ref (a + 3)))) g5 := by
    rw [l3] at dr
    rw [l4] at own
    have m1 : (mL kDictR (mCons (mVar 6) mNil)) (τ (some K) (some (stV a (a + 1))) p5 (some (.ref h3.length)) (some (.ref g1.length)) p8 p9) g3 = .ok (.ref (a + 2)) g4 := l1_okH (v1 := .ref h3.length) (var_ok rfl rfl) dr
    have m2 : (mMet 13 48 c_Store_all_owners (mVar 4) mNil) (τ (some K) (some (stV a (a + 1))) p5 (some (.ref h3.length)) (some (.ref g1.length)) p8 p9) g4 = .ok (.ref (a + 3)) g5 := met_ok (v := stV a (a + 1)) (var_ok rfl pl_st) (fo_st g4) rfl rfl own
    rw [sAsg_ev, mL_ev, asH m1 (asH m2 nilH), bind_ok]
    rfl
  unfold q13_law
  rw [sSeq_ev, c13, thn_nx]
  obtain ⟨y10, y11, y12, y13, y14, y15, y16, g6, s1, os1, t1, T1⟩ := turn_ok hk (by omega) (by omega) T0 (some S) (some (.int (at' : Nat))) (some (.int 0)) (some (.ref h3.length)) (some (.ref g1.length)) p10 p11 p12 p13 p14 p15 p16 p17
  obtain ⟨z10, z11, z12, z13, z14, z15, z16, g7, s2, os2, t2, T2⟩ := turn_ok hk (by omega) (by omega) T1 (some S) (some (.int (at' : Nat))) (some (.int 1)) (some (.ref h3.length)) (some (.ref g1.length)) y10 y11 y12 y13 y14 y15 y16 p17
  rw [← hK] at t1 t2
  let υ : AS := [some S, some (.int (at' : Nat)), some (.ref n), some K, some (stV a (a + 1)), some (.int 1), some (.ref h3.length), some (.ref g1.length), some (.ref (a + 2)), some (.ref (a + 3)), z10, z11, z12, z13, z14, z15, z16, p17]
  have c12 : sFor (gN 5) (mRng1 (mCons (mC (.int 2)) mNil)) l1_law (τ (some K) (some (stV a (a + 1))) p5 (some (.ref h3.length)) (some (.ref g1.length)) (some (.ref (a + 2))) (some (.ref (a + 3)))) g5 = .nx υ g7 := by
    have rg : (mRng1 (mCons (mC (.int 2)) mNil)) (τ (some K) (some (stV a (a + 1))) p5 (some (.ref h3.length)) (some (.ref g1.length)) (some (.ref (a + 2))) (some (.ref (a + 3)))) g5 = .ok [.int 0, .int 1] g5 := by
      rw [mRng1_ev, as1 (v1 := .int 2) c_ok, bind_ok, fRng1_ev, if_pos (by decide)]
      rfl
    rw [sFor_ev, rg, bindS_ok, fFor_ev, forL_cons rfl t1, forL_cons rfl t2]
    rfl
  unfold q12_law
  rw [sSeq_ev, c12, thn_nx]
  have ⟨ql, qb⟩ := T2.Q.len
  have v4 : (mVar 4) υ g7 = .ok (stV a (a + 1)) g7 := var_ok rfl pl_st
  have v8 : (mVar 8) υ g7 = .ok (.ref (a + 2)) g7 := var_ok rfl rfl
  have v9 : ∀ g, (mVar 9) υ g = .ok (.ref (a + 3)) g := fun g => var_ok rfl rfl
  have qr : (mB (mBin kNeH (mMet 13 47 c_Store_all_rows (mVar 4) mNil) (mLc [17] (gE 17) (mIt itL (mL kSortF (mCons (mL kListDF (mCons (mVar 8) mNil)) mNil))) mYes (mL kTup (mCons (mVar 17) (mCons (mBin kDGet (mVar 8) (mVar 17)) mNil)))))) υ g7 = .ok false g7 := tb_ok (bin2 (v1 := .fl (rowsL s2.1)) (v2 := .fl (rowsL s2.1)) (met_ok (v := stV a (a + 1)) v4 (fo_st g7) rfl rfl (zrows_ok T2.S.ha T2.Q.il T2.Q.nl (by omega))) (lc_rows T2.L.hr T2.Q.il T2.Q.nl (by omega) (by show (17 : Nat) < 18; decide) v8 (fun k => var_ok rfl rfl)) (ne_sf sf_rows))
  let g8 : AH := g7 ++ [some (.lst (ownL s2.2))]
  have lo2 := T2.L.los T2.Q
  have ho8 : g8[a + 3]? = some (some (.lst (os2.map .str))) := by
    show (g7 ++ _)[a + 3]? = _
    rw [List.getElem?_append_left (at_lt T2.L.ho)]
    exact T2.L.ho
  have so : kSortF [.ref (a + 3)] g8 = some (.fl (ownL s2.2), g8) := by
    rw [kSortF_ev, sortO_of (ss := os2) (by simp [seqD, dctA, ho8]) (by omega)]
    unfold ownL
    rw [sortA_congr T2.L.po]
    rfl
  have hn8 : g8[g7.length]? = some (some (.lst (ownL s2.2))) := by show (g7 ++ _)[g7.length]? = _; rw [List.getElem?_append_right (Nat.le_refl _), Nat.sub_self]; rfl
  have qo : (mB (mBin kNeH (mMet 13 48 c_Store_all_owners (mVar 4) mNil) (mL kSortF (mCons (mVar 9) mNil)))) υ g7 = .ok false g8 := tb_ok (bin2 (v1 := .ref g7.length) (v2 := .fl (ownL s2.2)) (met_ok (v := stV a (a + 1)) v4 (fo_st g7) rfl rfl (zowns_ok T2.S.hb (by omega))) (l1_ok (v9 g8) so) (ne_two (lst_of hn8) rfl fun x hx => by
    obtain ⟨k, _, rfl⟩ := List.mem_map.mp hx
    exact sf_str k))
  unfold q11_law
  rw [sSeq_ev, if_skip qr, thn_nx]
  unfold q10_law
  rw [if_skip qo, goon_nx]
  exact ⟨_, rfl, rfl⟩
end Bo
open Bo
theorem law_true (ns : List Int) (hn : ns.length ≤ 63) : ∃ h', m_law [.fl (ns.map .int)] [] = .ok (.bl true) h' := by
 have hr : rOk (if (if (ns.length : Int) < 5 then (ns.length : Int) else 5) > 1 then (if (ns.length : Int) < 5 then (ns.length : Int) else 5) else 1) = true := by
  unfold rOk
  apply decide_eq_true
  split <;> (try split) <;> omega
 obtain ⟨τ', h', e, ys, hy, rfl⟩ := goon_for (g := gN 1) (b := l2_law) (Inv (.fl (ns.map .int))) (rngA 0 (if (if (ns.length : Int) < 5 then (ns.length : Int) else 5) > 1 then (if (ns.length : Int) < 5 then (ns.length : Int) else 5) else 1)) (fun v hv τ h q => by
  obtain ⟨ys, hy, rfl⟩ := q
  unfold rngA at hv
  simp at hv
  obtain ⟨a, ha, rfl⟩ := hv
  have ha : a < 1000 := by split at ha <;> (try split at ha) <;> omega
  match ys, hy with
  | [p1, p2, p3, p4, p5, p6, p7, p8, p9, p10, p11, p12, p13, p14, p15, p16, p17], _ =>
   exact ⟨[some (.fl (ns.map .int)), some (.int a), p2, p3, p4, p5, p6, p7, p8, p9, p10, p11, p12, p13, p14, p15, p16, p17], by simp, body_ok ns hn a ha _ _ _ _ _ _ _ _ _ _ _ _ _ _ _ _ h⟩) [some (.fl (ns.map .int)), none, none, none, none, none, none, none, none, none, none, none, none, none, none, none, none, none] [] ⟨_, rfl, rfl⟩
 refine ⟨h', ?_⟩
 have k1 : kLen [.fl (ns.map .int)] [] = some (.int (ns.length : Nat), []) := by rw [kLen_fl, List.length_map]
 generalize hS : ns.map AV.int = S at *
 simp [-kLen_fl, m_law, b_law, k1, hr, e, q17_law]
end Wk12
theorem PySem.Challenge.cw_chunkedloads_k12_writes_holds : PySem.Challenge.rw_chunkedloads_k12_writes.Holds :=
 Wk12.end_pre fun ns hn => Wk12.law_true ns hn
