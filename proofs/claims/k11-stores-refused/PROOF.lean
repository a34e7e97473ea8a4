import PyProof.Rows.All
import Wide.All
import OpenK.AllK
import Wide.FinOn
import HandS.ForMost
import HandS.ForExc
import HandS.Walk
import HandS.CallSlots
import HandS.ExcInit
import HandS.ExcField
import HandS.ExcIs
import HandS.TryOnly
import HandS.Wide
import HandS.IsInst
import HandS.More
import HandS.ClsMeth
import KE.KExcIs
import HandS.Style
import HandS.Text
import HandS.Comp
import PyProof.ListStr
import HandS.FStr
import HandS.MakeKwOnly
import KE.KCallOwn
import HandS.Dict
import PyProof.InstNe
import HandS.Deep
import KE.GoesEnum
import HandS.Defaults
import HandS.Property
import KE.KOpsOwn
import HandS.Zip
import KE.KDictOf
import HandS.DictComp
import HandS.WordsDict
import HandS.StrMore
import HandS.RaiseMore
import HandS.ReplaceLit
import KE.IntTextLaws
import KE.KStrOpen
import PyProof.StrLawsAffix
import HandS.ReplaceList
import HandS.Iter
import HandS.TryMany
import PySem.Challenge.RW_chunkedloads_k11_stores_refused
set_option Elab.async false
set_option linter.all false
set_option maxRecDepth 100000
set_option maxHeartbeats 4000000
set_option autoImplicit false
/-! PI: plain functions over plain data, and what they say of the def's readings. -/
namespace PI
open PySem PySem.Spec PyProof.Rows L2
/-- an exception's class: the text's own, or a built-in one -/
inductive XC where
  | own (c : Nat) | bi (n : String)
/-- plain values; fl, fd, obj: a list, a dict, an instance that nobody changes; ref: a place of the plain heap; kd: a dict of the module; mL, mD, mI: an object that one slot alone holds -/
inductive AV where
  | non | bl (b : Bool) | int (i : Int) | str (x : Str) | tup (xs : List AV) | fl (xs : List AV) | fd (kvs : List (Key × AV))
  | ref (n : Nat) | cls (c : Nat) | ty (n : String) | fn (f : Nat) | kd (d : Nat) | obj (c : Nat) (fs : List (Nat × AV))
  | mL (xs : List AV) | mD (kvs : List (Key × AV)) | mI (c : Nat) (fs : List (Nat × AV)) | mE (x : XC) (fs : List (Nat × AV))
inductive AO where
  | lst (xs : List AV) | dk (kvs : List (Key × AV)) | ins (c : Nat) (fs : List (Nat × AV))
abbrev AH := List (Option AO)
abbrev AS := List (Option AV)
abbrev SL := L2.St
structure Gx where
  K : PySem.W.Frag
  ca : Nat → Addr
  fa : Nat → Addr
  da : Nat → Addr
  nm : Nat → Str
  inj : ∀ i j, nm i = nm j → i = j
/-- Z: what slots alone hold; rho: where the plain heap's places stand -/
structure Cfg where
  Z : Addr → Prop
  rho : Nat → Addr
  h : AH
  H : Hp
def NA (c : Cfg) (a : Addr) : Prop := ∀ (n : Nat) (o : AO), c.h[n]? = some (some o) → c.rho n ≠ a
/-- a stands outside the plain heap, and no slot holds it alone -/
def Frz (c : Cfg) (a : Addr) : Prop := NA c a ∧ ¬ c.Z a
def KLst (K : PySem.W.Frag) (a : Addr) (xs : List V) : Prop :=
  ∃ (o : Obj) (its : Array Value) (n : Nat), K.lookup a = some o ∧ o.cls = .type "list" ∧ o.dict = none ∧ o.data = .seq its n ∧ its.size ≤ sizeLine ∧ Vals xs its.toList
def KTup (K : PySem.W.Frag) (a : Addr) (xs : List V) : Prop :=
  ∃ (o : Obj) (its : Array Value) (n : Nat), K.lookup a = some o ∧ o.cls = .type "tuple" ∧ o.data = .seq its n ∧ its.size ≤ sizeLine ∧ Vals xs its.toList
def kOk : Key → Bool
  | .inl _ => true
  | .inr x => PyData.strOk x
mutual
inductive RV (G : Gx) (c : Cfg) : AV → V → Prop where
  | non : RV G c .non .non
  | bl {b} : RV G c (.bl b) (.bl b)
  | int {i} : RV G c (.int i) (.int i)
  | str {x} : PyData.strOk x = true → RV G c (.str x) (.str x)
  | ty {n} : RV G c (.ty n) (.ty n)
  | cls {k} : RV G c (.cls k) (.ref (G.ca k))
  | fn {f} : RV G c (.fn f) (.ref (G.fa f))
  | kd {d} : RV G c (.kd d) (.ref (G.da d))
  | ref {n} : n < c.h.length → RV G c (.ref n) (.ref (c.rho n))
  | tup {a xs us} : Rd c.H a (.tup us) → Frz c a → RVs G c xs us → RV G c (.tup xs) (.ref a)
  | tupK {a xs us} : KTup G.K a us → RVs G c xs us → RV G c (.tup xs) (.ref a)
  | fl {a xs us} : Rd c.H a (.lst us) → Frz c a → RVs G c xs us → RV G c (.fl xs) (.ref a)
  | flK {a xs us} : KLst G.K a us → RVs G c xs us → RV G c (.fl xs) (.ref a)
  | fd {a xs us} : Rd c.H a (.dK us) → Frz c a → RVd G c xs us → RV G c (.fd xs) (.ref a)
  | obj {a k fs dx uf} : c.H a = some (.ins (G.ca k) dx uf) → Frz c a → RVf G c fs uf → RV G c (.obj k fs) (.ref a)
inductive RVs (G : Gx) (c : Cfg) : List AV → List V → Prop where
  | nil : RVs G c [] []
  | cons {x xs u us} : RV G c x u → RVs G c xs us → RVs G c (x :: xs) (u :: us)
inductive RVf (G : Gx) (c : Cfg) : List (Nat × AV) → List (Str × V) → Prop where
  | nil : RVf G c [] []
  | cons {f x xs u us} : RV G c x u → RVf G c xs us → RVf G c ((f, x) :: xs) ((G.nm f, u) :: us)
inductive RVd (G : Gx) (c : Cfg) : List (Key × AV) → List (Key × V) → Prop where
  | nil : RVd G c [] []
  | cons {k x xs u us} : kOk k = true → RV G c x u → RVd G c xs us → RVd G c ((k, x) :: xs) ((k, u) :: us)
end
def RO (G : Gx) (c : Cfg) : AO → Addr → Prop
  | .lst xs, a => ∃ us, c.H a = some (.lst us) ∧ RVs G c xs us
  | .dk kvs, a => ∃ us, c.H a = some (.dK us) ∧ RVd G c kvs us
  | .ins k fs, a => ∃ dx uf, c.H a = some (.ins (G.ca k) dx uf) ∧ RVf G c fs uf
theorem beyond {h : AH} {n : Nat} {x : Option AO} (hn : h.length ≤ n) (e : h[n]? = some x) : False := by
  rw [List.getElem?_eq_none_iff.mpr hn] at e
  cases e
structure Rel (G : Gx) (c : Cfg) : Prop where
  obj : ∀ (n : Nat) (o : AO), c.h[n]? = some (some o) → RO G c o (c.rho n)
  inj : ∀ (n m : Nat) (o o' : AO), c.h[n]? = some (some o) → c.h[m]? = some (some o') → c.rho n = c.rho m → n = m
  zok : ∀ a, c.Z a → NA c a ∧ ∃ o, c.H a = some o
/-- values of c are values of c' -/
structure Mv (c c' : Cfg) : Prop where
  len : c.h.length ≤ c'.h.length
  dead : ∀ n : Nat, c.h[n]? = some none → c'.h[n]? = some none
  same : ∀ n : Nat, n < c.h.length → c'.rho n = c.rho n
  fresh : ∀ (n : Nat) (o : AO), c.h.length ≤ n → c'.h[n]? = some (some o) → c.H (c'.rho n) = none
  keep : ∀ b o, c.H b = some o → Frz c b → c'.H b = some o
  zf : ∀ b o, c.H b = some o → Frz c b → ¬ c'.Z b
  there : ∀ b o, c.H b = some o → ∃ o', c'.H b = some o'
/-- what an expression does -/
structure Nxt (G : Gx) (c c' : Cfg) : Prop where
  rel : Rel G c'
  mv : Mv c c'
  z : c'.Z = c.Z
  zz : ∀ a, c.Z a → c'.H a = c.H a
section
variable {G : Gx} {c c' c2 : Cfg} {a b : Addr} {n : Nat}
theorem RO.there {o : AO} (r : RO G c o a) : ∃ u, c.H a = some u := by
  cases o with
  | lst xs => obtain ⟨_, e, _⟩ := r; exact ⟨_, e⟩
  | dk xs => obtain ⟨_, e, _⟩ := r; exact ⟨_, e⟩
  | ins c fs => obtain ⟨_, _, e, _⟩ := r; exact ⟨_, e⟩
theorem Rel.there {o : AO} (r : Rel G c) (e : c.h[n]? = some (some o)) : ∃ u, c.H (c.rho n) = some u := (r.obj n o e).there
theorem Rel.na (r : Rel G c) (e : c.H a = none) : NA c a := fun n o q z => by
  obtain ⟨u, hu⟩ := r.there q
  rw [z, e] at hu
  cases hu
theorem Rel.nz (r : Rel G c) (e : c.H a = none) : ¬ c.Z a := fun z => by
  obtain ⟨_, o, q⟩ := r.zok a z
  rw [e] at q
  cases q
theorem Rel.frz (r : Rel G c) (e : c.H a = none) : Frz c a := ⟨r.na e, r.nz e⟩
theorem Mv.alive {o : AO} (N : Mv c c') (hn : n < c.h.length) (e : c'.h[n]? = some (some o)) : ∃ o', c.h[n]? = some (some o') := by
  cases q : c.h[n]? with
  | none => rw [List.getElem?_eq_none_iff] at q; omega
  | some x =>
    cases x with
    | none => rw [N.dead n q] at e; cases e
    | some o' => exact ⟨o', rfl⟩
theorem Mv.na {o : HO} (N : Mv c c') (f : NA c b) (e : c.H b = some o) : NA c' b := fun n o' q z => by
  by_cases hn : n < c.h.length
  · obtain ⟨o2, q2⟩ := N.alive hn q
    exact f n o2 q2 ((N.same n hn).symm.trans z)
  · have y := N.fresh n o' (by omega) q
    rw [z, e] at y
    cases y
theorem Mv.frz {o : HO} (N : Mv c c') (f : Frz c b) (e : c.H b = some o) : Frz c' b := ⟨N.na f.1 e, N.zf b o e f⟩
theorem Mv.refl : Mv c c := ⟨Nat.le_refl _, fun _ e => e, fun _ _ => rfl, fun n o hn e => (beyond hn e).elim, fun _ _ e _ => e, fun _ _ _ f => f.2, fun _ o e => ⟨o, e⟩⟩
theorem Mv.trans (A : Mv c c') (B : Mv c' c2) : Mv c c2 where
  len := Nat.le_trans A.len B.len
  dead := fun n e => B.dead n (A.dead n e)
  same := fun n hn => (B.same n (Nat.lt_of_lt_of_le hn A.len)).trans (A.same n hn)
  keep := fun b o e f => B.keep b o (A.keep b o e f) (A.frz f e)
  zf := fun b o e f => B.zf b o (A.keep b o e f) (A.frz f e)
  there := fun b o e => let ⟨o', e'⟩ := A.there b o e; B.there b o' e'
  fresh := fun n o hn e => by
    by_cases hm : n < c'.h.length
    · obtain ⟨o', e'⟩ := B.alive hm e
      rw [B.same n hm]
      exact A.fresh n o' hn e'
    · have y := B.fresh n o (by omega) e
      cases q : c.H (c2.rho n) with
      | none => rfl
      | some u =>
        obtain ⟨o', e'⟩ := A.there _ _ q
        rw [y] at e'; cases e'
theorem Mv.rd {u : HO} (N : Mv c c') (r : Rd c.H a u) (f : Frz c a) : Rd c'.H a u ∧ Frz c' a := by
  rcases r with e | ⟨o, e⟩
  · exact ⟨.inl (N.keep _ _ e f), N.frz f e⟩
  · exact ⟨.inr ⟨o, N.keep _ _ e f⟩, N.frz f e⟩
mutual
theorem RV.mono (N : Mv c c') : ∀ {v : AV} {u : V}, RV G c v u → RV G c' v u
  | _, _, .non => .non
  | _, _, .bl => .bl
  | _, _, .int => .int
  | _, _, .str k => .str k
  | _, _, .ty => .ty
  | _, _, .cls => .cls
  | _, _, .fn => .fn
  | _, _, .kd => .kd
  | _, _, .ref (n := n) hn => by rw [← N.same n hn]; exact .ref (Nat.lt_of_lt_of_le hn N.len)
  | _, _, .tup r f x => .tup (N.rd r f).1 (N.rd r f).2 (RVs.mono N x)
  | _, _, .tupK k x => .tupK k (RVs.mono N x)
  | _, _, .fl r f x => .fl (N.rd r f).1 (N.rd r f).2 (RVs.mono N x)
  | _, _, .flK k x => .flK k (RVs.mono N x)
  | _, _, .fd r f x => .fd (N.rd r f).1 (N.rd r f).2 (RVd.mono N x)
  | _, _, .obj e f x => .obj (N.keep _ _ e f) (N.frz f e) (RVf.mono N x)
theorem RVs.mono (N : Mv c c') : ∀ {v : List AV} {u : List V}, RVs G c v u → RVs G c' v u
  | _, _, .nil => .nil
  | _, _, .cons r x => .cons (RV.mono N r) (RVs.mono N x)
theorem RVf.mono (N : Mv c c') : ∀ {v : List (Nat × AV)} {u : List (Str × V)}, RVf G c v u → RVf G c' v u
  | _, _, .nil => .nil
  | _, _, .cons r x => .cons (RV.mono N r) (RVf.mono N x)
theorem RVd.mono (N : Mv c c') : ∀ {v : List (Key × AV)} {u : List (Key × V)}, RVd G c v u → RVd G c' v u
  | _, _, .nil => .nil
  | _, _, .cons k r x => .cons k (RV.mono N r) (RVd.mono N x)
end
theorem Nxt.refl (r : Rel G c) : Nxt G c c := ⟨r, .refl, rfl, fun _ _ => rfl⟩
theorem Nxt.trans (A : Nxt G c c') (B : Nxt G c' c2) : Nxt G c c2 := ⟨B.rel, A.mv.trans B.mv, B.z.trans A.z, fun a z => (B.zz a (by rw [A.z]; exact z)).trans (A.zz a z)⟩
theorem RO.mono {o : AO} (N : Mv c c') (e : c'.H a = c.H a) (r : RO G c o a) : RO G c' o a := by
  cases o with
  | lst xs => obtain ⟨us, q, x⟩ := r; exact ⟨us, e.trans q, x.mono N⟩
  | dk xs => obtain ⟨us, q, x⟩ := r; exact ⟨us, e.trans q, x.mono N⟩
  | ins c fs => obtain ⟨dx, us, q, x⟩ := r; exact ⟨dx, us, e.trans q, x.mono N⟩
/-- the tracked heap grows, the plain one stays -/
theorem Nxt.grow {H' : Hp} (r : Rel G c) (s : ∀ b o, c.H b = some o → H' b = some o) : Nxt G c { c with H := H' } := by
  have N : Mv c { c with H := H' } := ⟨Nat.le_refl _, fun _ e => e, fun _ _ => rfl, fun n o hn e => (beyond hn e).elim, fun b o e _ => s b o e, fun _ _ _ f => f.2, fun b o e => ⟨o, s b o e⟩⟩
  refine ⟨⟨fun n o e => ?_, r.inj, fun a z => ?_⟩, N, rfl, fun a z => ?_⟩
  · obtain ⟨u, hu⟩ := r.there e
    exact (r.obj n o e).mono N ((s _ _ hu).trans hu.symm)
  · obtain ⟨q, o, e⟩ := r.zok a z
    exact ⟨q, o, s _ _ e⟩
  · obtain ⟨q, o, e⟩ := r.zok a z
    exact (s _ _ e).trans e.symm
theorem Nxt.temp {p : Addr} {O : HO} (r : Rel G c) (e : c.H p = none) : Nxt G c { c with H := upd c.H p O } := .grow r fun b o q => by
  rw [upd_ne (ne_of_none q e)]; exact q
/-- an object is changed -/
theorem Nxt.write {o o' : AO} {O : HO} (r : Rel G c) (e : c.h[n]? = some (some o)) (new : ∀ c', Mv c c' → c'.H (c.rho n) = some O → RO G c' o' (c.rho n)) :
    Nxt G c { c with h := c.h.set n (some o'), H := upd c.H (c.rho n) O } := by
  have hn : n < c.h.length := by
    rcases Nat.lt_or_ge n c.h.length with q | q
    · exact q
    · rw [List.getElem?_eq_none_iff.mpr q] at e; cases e
  have N : Mv c { c with h := c.h.set n (some o'), H := upd c.H (c.rho n) O } := by
    refine ⟨by simp, fun m q => ?_, fun _ _ => rfl, fun m u hm q => ?_, fun b u q f => ?_, fun _ _ _ f => f.2, fun b u q => ?_⟩
    · show (c.h.set n (some o'))[m]? = some none
      rw [List.getElem?_set_ne (fun z => by rw [← z, e] at q; cases q)]; exact q
    · have q' : (c.h.set n (some o'))[m]? = some (some u) := q
      rw [List.getElem?_eq_none_iff.mpr (by simpa using hm)] at q'; cases q'
    · show upd c.H (c.rho n) O b = some u
      rw [upd_ne (fun z => f.1 n o e z.symm)]; exact q
    · show ∃ o', upd c.H (c.rho n) O b = some o'
      by_cases z : b = c.rho n
      · exact ⟨O, by rw [z, upd_same]⟩
      · exact ⟨u, by rw [upd_ne z]; exact q⟩
  have al : ∀ (m : Nat) (u : AO), (c.h.set n (some o'))[m]? = some (some u) → m ≠ n → c.h[m]? = some (some u) := fun m u q z => by
    rw [List.getElem?_set_ne (Ne.symm z)] at q; exact q
  have al2 : ∀ (m : Nat) (u : AO), (c.h.set n (some o'))[m]? = some (some u) → ∃ u', c.h[m]? = some (some u') := fun m u q => by
    by_cases z : m = n
    · exact ⟨o, by rw [z]; exact e⟩
    · exact ⟨u, al m u q z⟩
  have zne : ∀ a, c.Z a → a ≠ c.rho n := fun a z y => (r.zok a z).1 n o e y.symm
  refine ⟨⟨fun m u q => ?_, fun i j u u' q q' z => ?_, fun a z => ?_⟩, N, rfl, fun a z => upd_ne (zne a z)⟩
  · by_cases z : m = n
    · subst z
      have q' : (c.h.set m (some o'))[m]? = some (some u) := q
      rw [List.getElem?_set_self hn] at q'
      cases q'
      exact new _ N upd_same
    · have q2 := al m u q z
      exact (r.obj m u q2).mono N (upd_ne fun y => z (r.inj _ _ _ _ q2 e y))
  · obtain ⟨_, q1⟩ := al2 i u q
    obtain ⟨_, q2⟩ := al2 j u' q'
    exact r.inj _ _ _ _ q1 q2 z
  · obtain ⟨q, o2, e2⟩ := r.zok a z
    refine ⟨fun m u y => ?_, o2, (upd_ne (zne a z)).trans e2⟩
    obtain ⟨_, q2⟩ := al2 m u y
    exact q m _ q2
/-- a new object -/
def ext (ρ : Nat → Addr) (n : Nat) (p : Addr) : Nat → Addr := fun m => if m = n then p else ρ m
theorem ext_same {ρ : Nat → Addr} {p : Addr} : ext ρ n p n = p := if_pos rfl
theorem ext_ne {ρ : Nat → Addr} {p : Addr} {m : Nat} (e : m ≠ n) : ext ρ n p m = ρ m := if_neg e
theorem Nxt.alloc {p : Addr} {o : AO} {H' : Hp} (r : Rel G c) (e : c.H p = none) (s : ∀ b u, c.H b = some u → H' b = some u)
    (new : ∀ c', Mv c c' → c'.H = H' → RO G c' o p) : Nxt G c { c with rho := ext c.rho c.h.length p, h := c.h ++ [some o], H := H' } := by
  have N : Mv c { c with rho := ext c.rho c.h.length p, h := c.h ++ [some o], H := H' } := by
    refine ⟨by simp, fun m q => ?_, fun m hm => ext_ne (by omega), fun m u hm q => ?_, fun b u q _ => s b u q, fun _ _ _ f => f.2, fun b u q => ⟨u, s b u q⟩⟩
    · have hm : m < c.h.length := by
        rcases Nat.lt_or_ge m c.h.length with z | z
        · exact z
        · rw [List.getElem?_eq_none_iff.mpr z] at q; cases q
      show (c.h ++ [some o])[m]? = some none
      rw [List.getElem?_append_left hm]; exact q
    · have q' : (c.h ++ [some o])[m]? = some (some u) := q
      have : m = c.h.length := by
        rcases Nat.lt_or_ge c.h.length m with z | z
        · rw [List.getElem?_eq_none_iff.mpr (by simp; omega)] at q'; cases q'
        · omega
      show c.H (ext c.rho c.h.length p m) = none
      rw [this, ext_same]; exact e
  have al : ∀ (m : Nat) (u : AO), (c.h ++ [some o])[m]? = some (some u) → m ≠ c.h.length → c.h[m]? = some (some u) ∧ m < c.h.length := fun m u q z => by
    have hm : m < c.h.length := by
      rcases Nat.lt_or_ge m c.h.length with y | y
      · exact y
      · rw [List.getElem?_eq_none_iff.mpr (by simp; omega)] at q; cases q
    rw [List.getElem?_append_left hm] at q
    exact ⟨q, hm⟩
  have nep : ∀ (m : Nat) (u : AO), c.h[m]? = some (some u) → c.rho m ≠ p := fun m u q z => by
    obtain ⟨x, hx⟩ := r.there q
    rw [z, e] at hx; cases hx
  refine ⟨⟨fun m u q => ?_, fun i j u u' q q' z => ?_, fun a z => ?_⟩, N, rfl, fun a z => ?_⟩
  · show RO G _ u (ext c.rho c.h.length p m)
    have q0 : (c.h ++ [some o])[m]? = some (some u) := q
    by_cases hm : m = c.h.length
    · subst hm
      rw [List.getElem?_append_right (Nat.le_refl _)] at q0
      simp at q0
      subst q0
      rw [ext_same]
      exact new _ N rfl
    · obtain ⟨q2, hl⟩ := al m u q0 hm
      rw [ext_ne hm]
      obtain ⟨x, hx⟩ := r.there q2
      exact (r.obj m u q2).mono N ((s _ _ hx).trans hx.symm)
  · have z' : ext c.rho c.h.length p i = ext c.rho c.h.length p j := z
    by_cases hi : i = c.h.length
    · by_cases hj : j = c.h.length
      · rw [hi, hj]
      · obtain ⟨q2, _⟩ := al j u' q' hj
        rw [hi, ext_same, ext_ne hj] at z'
        exact absurd z'.symm (nep j u' q2)
    · obtain ⟨q1, _⟩ := al i u q hi
      by_cases hj : j = c.h.length
      · rw [hj, ext_same, ext_ne hi] at z'
        exact absurd z' (nep i u q1)
      · obtain ⟨q2, _⟩ := al j u' q' hj
        rw [ext_ne hi, ext_ne hj] at z'
        exact r.inj _ _ _ _ q1 q2 z'
  · obtain ⟨q, o2, e2⟩ := r.zok a z
    refine ⟨N.na q e2, o2, s _ _ e2⟩
  · obtain ⟨q, o2, e2⟩ := r.zok a z
    exact (s _ _ e2).trans e2.symm
/-- an object is let go: it is a value from now on -/
theorem Nxt.kill (r : Rel G c) : Nxt G c { c with h := c.h.set n none } := by
  have al : ∀ (m : Nat) (u : AO), (c.h.set n none)[m]? = some (some u) → m ≠ n ∧ c.h[m]? = some (some u) := fun m u q => by
    by_cases z : m = n
    · subst z
      by_cases hn : m < c.h.length
      · rw [List.getElem?_set_self hn] at q; cases q
      · rw [List.getElem?_eq_none_iff.mpr (by simpa using hn)] at q; cases q
    · rw [List.getElem?_set_ne (Ne.symm z)] at q; exact ⟨z, q⟩
  have N : Mv c { c with h := c.h.set n none } := by
    refine ⟨by simp, fun m q => ?_, fun _ _ => rfl, fun m u hm q => ?_, fun b u q _ => q, fun _ _ _ f => f.2, fun b u q => ⟨u, q⟩⟩
    · show (c.h.set n none)[m]? = some none
      by_cases z : m = n
      · subst z
        rcases Nat.lt_or_ge m c.h.length with y | y
        · rw [List.getElem?_set_self y]
        · rw [List.getElem?_eq_none_iff.mpr y] at q; cases q
      · rw [List.getElem?_set_ne (Ne.symm z)]; exact q
    · have q' : (c.h.set n none)[m]? = some (some u) := q
      rw [List.getElem?_eq_none_iff.mpr (by simpa using hm)] at q'; cases q'
  exact ⟨⟨fun m u q => (r.obj m u (al m u q).2).mono N rfl, fun i j u u' q q' z => r.inj _ _ _ _ (al i u q).2 (al j u' q').2 z, fun a z => ⟨fun m u q => (r.zok a z).1 m u (al m u q).2, (r.zok a z).2⟩⟩, N, rfl, fun _ _ => rfl⟩
theorem kill_frz {o : AO} (r : Rel G c) (e : c.h[n]? = some (some o)) : Frz { c with h := c.h.set n none } (c.rho n) := by
  refine ⟨fun m u q z => ?_, fun z => (r.zok _ z).1 n o e rfl⟩
  have q' : (c.h.set n none)[m]? = some (some u) := q
  by_cases y : m = n
  · subst y
    have hn : m < c.h.length := by
      rcases Nat.lt_or_ge m c.h.length with q | q
      · exact q
      · rw [List.getElem?_eq_none_iff.mpr q] at e; cases e
    rw [List.getElem?_set_self hn] at q'; cases q'
  · rw [List.getElem?_set_ne (Ne.symm y)] at q'
    exact y (r.inj _ _ _ _ q' e z)
theorem RVs.length {vs : List AV} {us : List V} : ∀ (r : RVs G c vs us), vs.length = us.length
  | .nil => rfl
  | .cons _ r => by rw [List.length_cons, List.length_cons, r.length]
theorem RVd.length {vs : List (Key × AV)} {us : List (Key × V)} : ∀ (r : RVd G c vs us), vs.length = us.length
  | .nil => rfl
  | .cons _ _ r => by rw [List.length_cons, List.length_cons, r.length]
theorem RVf.length {vs : List (Nat × AV)} {us : List (Str × V)} : ∀ (r : RVf G c vs us), vs.length = us.length
  | .nil => rfl
  | .cons _ r => by rw [List.length_cons, List.length_cons, r.length]
/-- fewer addresses are held alone: values stay values -/
theorem Mv.fewer {Z' : Addr → Prop} (s : ∀ a, Z' a → c.Z a) : Mv c { c with Z := Z' } :=
  ⟨Nat.le_refl _, fun _ e => e, fun _ _ => rfl, fun n o hn e => (beyond hn e).elim, fun _ _ e _ => e, fun b _ _ f z => f.2 (s b z), fun _ o e => ⟨o, e⟩⟩
theorem Rel.fewer {Z' : Addr → Prop} (r : Rel G c) (s : ∀ a, Z' a → c.Z a) : Rel G { c with Z := Z' } :=
  ⟨fun n o e => (r.obj n o e).mono (Mv.fewer s) rfl, r.inj, fun a z => r.zok a (s a z)⟩
/-- a new object that a slot alone holds -/
theorem Mv.mine {p : Addr} {O : HO} (e : c.H p = none) : Mv c { c with Z := fun a => c.Z a ∨ a = p, H := upd c.H p O } :=
  ⟨Nat.le_refl _, fun _ e => e, fun _ _ => rfl, fun n o hn e => (beyond hn e).elim,
    fun b o q _ => (upd_ne (ne_of_none q e)).trans q, fun b o q f z => Or.elim z f.2 (ne_of_none q e), fun b o q => ⟨o, (upd_ne (ne_of_none q e)).trans q⟩⟩
theorem Rel.mine {p : Addr} {O : HO} (r : Rel G c) (e : c.H p = none) : Rel G { c with Z := fun a => c.Z a ∨ a = p, H := upd c.H p O } := by
  refine ⟨fun n o q => ?_, r.inj, fun a z => ?_⟩
  · obtain ⟨u, hu⟩ := r.there q
    exact (r.obj n o q).mono (Mv.mine e) (upd_ne (ne_of_none hu e))
  · rcases z with z | z
    · obtain ⟨q, o, y⟩ := r.zok a z
      exact ⟨q, o, (upd_ne (ne_of_none y e)).trans y⟩
    · subst z
      exact ⟨r.na e, O, upd_same⟩
/-- an object that a slot alone holds is changed -/
theorem Mv.turn {p : Addr} {O : HO} (z : c.Z p) : Mv c { c with H := upd c.H p O } :=
  ⟨Nat.le_refl _, fun _ e => e, fun _ _ => rfl, fun n o hn e => (beyond hn e).elim,
    fun b o q f => (upd_ne (fun y => f.2 (by rw [y]; exact z))).trans q, fun b o q f => f.2, fun b o q => by
      by_cases y : b = p
      · refine ⟨O, ?_⟩
        show upd c.H p O b = _
        rw [y, upd_same]
      · exact ⟨o, (upd_ne y).trans q⟩⟩
theorem Rel.turn {p : Addr} {O : HO} (r : Rel G c) (z : c.Z p) : Rel G { c with H := upd c.H p O } := by
  refine ⟨fun n o q => ?_, r.inj, fun a y => ?_⟩
  · exact (r.obj n o q).mono (Mv.turn z) (upd_ne fun y => (r.zok p z).1 n o q y)
  · obtain ⟨q, o, e⟩ := r.zok a y
    by_cases x : a = p
    · refine ⟨q, O, ?_⟩
      show upd c.H p O a = _
      rw [x, upd_same]
    · exact ⟨q, o, (upd_ne x).trans e⟩
end
end PI
/-! PIx: results, readings, the rules of expressions. -/
namespace PI
open PySem PySem.Spec PyProof.Rows L2
def Gx.xv (G : Gx) : XC → Value
  | .own c => .ref (G.ca c)
  | .bi n => .type n
inductive Res (α : Type) where
  | ok (a : α) (h : AH) | exc (x : XC) (fs : List (Nat × AV)) (h : AH) | stuck
def Res.bind {α β : Type} (r : Res α) (f : α → AH → Res β) : Res β := match r with
  | .ok a h => f a h
  | .exc x fs h => .exc x fs h
  | .stuck => .stuck
def Res.of {α : Type} : Option (α × AH) → Res α
  | some (a, h) => .ok a h
  | none => .stuck
def RX (G : Gx) (c : Cfg) (x : XC) (fs : List (Nat × AV)) (cls : Value) (d : Option Addr) : Prop :=
  cls = G.xv x ∧ ((fs = [] ∧ (d = none ∨ ∃ n, x = .bi n)) ∨ ∃ dd uf, d = some dd ∧ c.H dd = some (.xd uf) ∧ Frz c dd ∧ RVf G c fs uf)
abbrev RR (α β : Type) := Cfg → α → β → Prop
/-- what is wanted of a result -/
def Post {α β : Type} (G : Gx) (R : RR α β) (c : Cfg) (W : XK) (Q : β → Hp → Prop) : Res α → Prop
  | .ok v h' => ∀ c' u, Nxt G c c' → c'.h = h' → R c' v u → Q u c'.H
  | .exc x fs h' => ∀ c' cls d, Nxt G c c' → c'.h = h' → RX G c' x fs cls d → W cls d c'.H
  | .stuck => False
/-- an exception in hand (its address, its class, its dict), the object that __init__ fills -/
structure Bx where
  ea : Addr
  ec : Value
  ed : Option Addr
  me : Addr
/-- one slot; l: what it alone holds -/
inductive SR (G : Gx) (B : Bx) (c : Cfg) : List Addr → Option AV → Option V → Prop where
  | skip {o} : SR G B c [] none o
  | val {v u} : RV G c v u → SR G B c [] (some v) (some u)
  | mL {a xs us} : c.Z a → c.H a = some (.lst us) → RVs G c xs us → SR G B c [a] (some (.mL xs)) (some (.ref a))
  | mD {a xs us} : c.Z a → c.H a = some (.dK us) → RVd G c xs us → SR G B c [a] (some (.mD xs)) (some (.ref a))
  | mI {k fs dx us} : c.Z B.me → c.H B.me = some (.ins (G.ca k) dx us) → RVf G c fs us → SR G B c [B.me] (some (.mI k fs)) (some (.ref B.me))
  | mE {x fs} : RX G c x fs B.ec B.ed → SR G B c [] (some (.mE x fs)) (some (.ref B.ea))
/-- the slots; L: the objects that slots alone hold, in the slots' order -/
inductive RS (G : Gx) (B : Bx) (c : Cfg) : List Addr → AS → SL → Prop where
  | nil : RS G B c [] [] []
  | cons {l L o s τ σ} : SR G B c l o s → RS G B c L τ σ → RS G B c (l ++ L) (o :: τ) (s :: σ)
/-- what may be read as a value -/
def plainV : AV → Bool
  | .mL _ => false
  | .mD _ => false
  | .mI _ _ => false
  | .mE _ _ => false
  | _ => true
section
variable {G : Gx} {B : Bx} {c c' : Cfg} {α β γ δ : Type} {R : RR α β} {R' : RR γ δ} {W W' : XK} {Q Q' : β → Hp → Prop} {L : List Addr} {τ : AS} {σ : SL}
theorem Post.trans (N : Nxt G c c') {r : Res α} (p : Post G R c W Q r) : Post G R c' W Q r := by
  cases r with
  | ok v h1 => exact fun c2 u M => p c2 u (N.trans M)
  | exc x fs h1 => exact fun c2 cl d M => p c2 cl d (N.trans M)
  | stuck => exact p
theorem Post.bind {r : Res α} {f : α → AH → Res γ} {Q : δ → Hp → Prop} (p : Post G R' c W Q (r.bind f)) :
    Post G R c W (fun u H1 => ∃ c1 v, H1 = c1.H ∧ Nxt G c c1 ∧ R c1 v u ∧ Post G R' c1 W Q (f v c1.h)) r := by
  cases r with
  | ok v h1 => exact fun c2 u N e q => ⟨c2, v, rfl, N, q, by rw [e]; exact Post.trans N p⟩
  | exc x fs h1 => exact p
  | stuck => exact p
theorem Post.imp {r : Res α} (p : Post G R c W Q r) (f : ∀ u H, Q u H → Q' u H) : Post G R c W Q' r := by
  cases r with
  | ok v h1 => exact fun c2 u N e q => f _ _ (p c2 u N e q)
  | exc x fs h1 => exact p
  | stuck => exact p
theorem RX.mono {x : XC} {fs : List (Nat × AV)} {cls : Value} {d : Option Addr} (N : Mv c c') (r : RX G c x fs cls d) : RX G c' x fs cls d := by
  obtain ⟨e, r⟩ := r
  refine ⟨e, ?_⟩
  rcases r with r | ⟨dd, uf, e1, r1, f1, x1⟩
  · exact .inl r
  · exact .inr ⟨dd, uf, e1, N.keep _ _ r1 f1, N.frz f1 r1, x1.mono N⟩
theorem SR.mono {l : List Addr} {o : Option AV} {t : Option V} (N : Mv c c') (r : SR G B c l o t) (z : ∀ a, a ∈ l → c'.Z a ∧ c'.H a = c.H a) : SR G B c' l o t := by
  cases r with
  | skip => exact .skip
  | val x => exact .val (x.mono N)
  | mL z1 e x => exact .mL (z _ List.mem_cons_self).1 ((z _ List.mem_cons_self).2.trans e) (x.mono N)
  | mD z1 e x => exact .mD (z _ List.mem_cons_self).1 ((z _ List.mem_cons_self).2.trans e) (x.mono N)
  | mI z1 e x => exact .mI (z _ List.mem_cons_self).1 ((z _ List.mem_cons_self).2.trans e) (x.mono N)
  | mE x => exact .mE (x.mono N)
theorem SR.z {l : List Addr} {o : Option AV} {t : Option V} (r : SR G B c l o t) : ∀ a, a ∈ l → c.Z a := by
  cases r with
  | mL z1 _ _ => intro a h; rw [List.mem_singleton] at h; rw [h]; exact z1
  | mD z1 _ _ => intro a h; rw [List.mem_singleton] at h; rw [h]; exact z1
  | mI z1 _ _ => intro a h; rw [List.mem_singleton] at h; rw [h]; exact z1
  | _ => intro a h; simp at h
/-- behind a step that keeps what slots alone hold -/
theorem RS.mono (N : Mv c c') (r : RS G B c L τ σ) (z : ∀ a, a ∈ L → c'.Z a ∧ c'.H a = c.H a) : RS G B c' L τ σ := by
  induction r with
  | nil => exact .nil
  | cons x _ ih => exact .cons (x.mono N fun a h => z a (List.mem_append_left _ h)) (ih fun a h => z a (List.mem_append_right _ h))
theorem RS.z (r : RS G B c L τ σ) : ∀ a, a ∈ L → c.Z a := by
  induction r with
  | nil => intro a h; simp at h
  | cons x _ ih => intro a h; rcases List.mem_append.mp h with h | h; (exact x.z a h); exact ih a h
theorem RS.nxt (N : Nxt G c c') (r : RS G B c L τ σ) : RS G B c' L τ σ := r.mono N.mv fun a h => ⟨by rw [N.z]; exact r.z a h, N.zz a (r.z a h)⟩
/-- one slot, and another thing put into it -/
theorem RS.focus (r : RS G B c L τ σ) : ∀ {i : Nat} {o : Option AV}, τ[i]? = some o → ∃ P S l s, L = P ++ l ++ S ∧ σ[i]? = some s ∧ SR G B c l o s ∧
    ∀ (c' : Cfg) l' o' s', Mv c c' → (∀ a, a ∈ P ++ S → c'.Z a ∧ c'.H a = c.H a) → SR G B c' l' o' s' → RS G B c' (P ++ l' ++ S) (τ.set i o') (σ.set i s') := by
  induction r with
  | nil => intro i o e; simp at e
  | @cons l L o s τ σ x r ih =>
    intro i o2 e
    cases i with
    | zero =>
      simp at e
      subst e
      exact ⟨[], L, l, s, by simp, rfl, x, fun c' l' o' s' N z y => by simpa using RS.cons y (r.mono N fun a h => z a (by simpa using h))⟩
    | succ i =>
      obtain ⟨P, S, l2, s2, e1, e2, x2, f⟩ := ih (i := i) (o := o2) (by simpa using e)
      refine ⟨l ++ P, S, l2, s2, by rw [e1]; simp, by simpa using e2, x2, fun c' l' o' s' N z y => ?_⟩
      have q := RS.cons (x.mono N fun a h => z a (by simp [h])) (f c' l' o' s' N (fun a h => z a (by simp at h ⊢; rcases h with h | h <;> simp [h])) y)
      simpa using q
theorem RS.get (r : RS G B c L τ σ) {i : Nat} {v : AV} (e : τ[i]? = some (some v)) (p : plainV v = true) : ∃ u, σ[i]? = some (some u) ∧ RV G c v u := by
  obtain ⟨_, _, l, s, _, e2, x, _⟩ := r.focus e
  cases x with
  | val x => exact ⟨_, e2, x⟩
  | _ => cases p
end
abbrev ME := AS → AH → Res AV
abbrev MA := AS → AH → Res (List AV)
abbrev MT := AS → AH → Res Bool
section
variable (G : Gx) (B : Bx) (W : WX)
/-- readings -/
def tI (m : ME) : TE := fun σ H Q => ∃ c τ L, c.H = H ∧ Rel G c ∧ RS G B c L τ σ ∧ Post G (RV G) c (fun k d H' => W k d σ H') Q (m τ c.h)
def tIa (m : MA) : TA := fun σ H Q => ∃ c τ L, c.H = H ∧ Rel G c ∧ RS G B c L τ σ ∧ Post G (RVs G) c (fun k d H' => W k d σ H') Q (m τ c.h)
def tIt (m : MT) : TT := fun σ H Q => ∃ c τ L, c.H = H ∧ Rel G c ∧ RS G B c L τ σ ∧ Post G (fun _ (a b : Bool) => a = b) c (fun k d H' => W k d σ H') Q (m τ c.h)
end
/-- judgements -/
def IE (G : Gx) (B : Bx) (W : WX) (X : Cx) (e : Expr) (m : ME) : Prop := PE X e (tI G B W m)
def IA (G : Gx) (B : Bx) (W : WX) (X : Cx) (es : List Expr) (m : MA) : Prop := PA X es (tIa G B W m)
def IT (G : Gx) (B : Bx) (W : WX) (X : Cx) (e : Expr) (m : MT) : Prop := PT X e (tIt G B W m)
def IW (G : Gx) (B : Bx) (W : WX) (X : Cx) (e : Expr) (m : MT) : Prop := PW X e (tIt G B W m)
section
variable {X : Cx} {e : Expr} {es : List Expr}
theorem PE.imp {t t' : TE} (h : PE X e t) (f : ∀ σ H Q, t' σ H Q → t σ H Q) : PE X e t' := ⟨fun pins s σ H Q I q => h.run pins s σ H Q I (f _ _ _ q)⟩
theorem PT.imp {t t' : TT} (h : PT X e t) (f : ∀ σ H Q, t' σ H Q → t σ H Q) : PT X e t' := ⟨fun pins s σ H Q I q => h.run pins s σ H Q I (f _ _ _ q)⟩
theorem PW.imp {t t' : TT} (h : PW X e t) (f : ∀ σ H Q, t' σ H Q → t σ H Q) : PW X e t' := ⟨fun w pins s σ H Q I q => h.run w pins s σ H Q I (f _ _ _ q)⟩
theorem PA.imp {t t' : TA} (h : PA X es t) (f : ∀ σ H Q, t' σ H Q → t σ H Q) : PA X es t' := ⟨fun p pins s σ H Q I q => h.run p pins s σ H Q I (f _ _ _ q)⟩
end
/-! ### the machines -/
def mVar (i : Nat) : ME := fun τ h => match τ[i]? with
  | some (some v) => if plainV v then .ok v h else .stuck
  | _ => .stuck
def mC (v : AV) : ME := fun _ h => .ok v h
def mUn (k : AV → AH → Option (AV × AH)) (m : ME) : ME := fun τ h => (m τ h).bind fun v h => .of (k v h)
def mBin (k : AV → AV → AH → Option (AV × AH)) (m n : ME) : ME := fun τ h => (m τ h).bind fun v h => (n τ h).bind fun w h => .of (k v w h)
def mNil : MA := fun _ h => .ok [] h
def mCons (m : ME) (r : MA) : MA := fun τ h => (m τ h).bind fun v h => (r τ h).bind fun vs h => .ok (v :: vs) h
def mL (k : List AV → AH → Option (AV × AH)) (m : MA) : ME := fun τ h => (m τ h).bind fun vs h => .of (k vs h)
def boolOf : AV → Option Bool
  | .bl b => some b
  | _ => none
/-- a value as a test -/
def mB (m : ME) : MT := fun τ h => (m τ h).bind fun v h => .of ((boolOf v).map fun b => (b, h))
def mTAnd (m n : MT) : MT := fun τ h => (m τ h).bind fun b h => if b then n τ h else .ok false h
def mTOr (m n : MT) : MT := fun τ h => (m τ h).bind fun b h => if b then .ok true h else n τ h
def mTNot (m : MT) : MT := fun τ h => (m τ h).bind fun b h => .ok (!b) h
def mIf (c : MT) (m n : ME) : ME := fun τ h => (c τ h).bind fun b h => if b then m τ h else n τ h
def mAndV (m n : ME) : ME := fun τ h => (m τ h).bind fun v h => match v with
  | .bl true => n τ h
  | .bl false => .ok (.bl false) h
  | _ => .stuck
def mOrV (m n : ME) : ME := fun τ h => (m τ h).bind fun v h => match v with
  | .bl true => .ok (.bl true) h
  | .bl false => n τ h
  | _ => .stuck
def mNotV (m : ME) : ME := fun τ h => (m τ h).bind fun v h => match v with
  | .bl b => .ok (.bl (!b)) h
  | _ => .stuck
/-! ### the rules -/
section
variable {G : Gx} {B : Bx} {W : WX} {X : Cx} {c c' : Cfg} {H H' : Hp} {a b e3 : Expr} {es : List Expr} {m n : ME} {ma : MA} {mt nt : MT} {pos : Pos}
/-- by the value in hand -/
theorem fin (r : Rel G c) {W : XK} {v : AV} {u : V} {Q : VK} (x : RV G c v u) (p : Post G (RV G) c W Q (.ok v c.h)) : Q u c.H := p c u (.refl r) rfl x
theorem ie_var (i : Nat) {x : Str} (hN : X.N[i]? = some x := by rfl) (hv : Vis X.env.scope x := by first | exact Or.inl rfl | exact Or.inr (Or.inl rfl) | exact Or.inr (Or.inr rfl)) (hd : (x == ("__debug__" : Str)) = false := by decide)
    (hcd : (x == ("__classdict__" : Str)) = false := by decide) : IE G B W X (.Name x pos) (mVar i) := by
  refine PE.imp (pv i hN hv hd hcd) fun σ H Q ⟨c, τ, L, eH, r, s, p⟩ => ?_
  subst eH
  unfold mVar at p
  split at p
  · rename_i v e
    by_cases q : plainV v = true
    · rw [if_pos q] at p
      obtain ⟨u, eu, x⟩ := s.get e q
      exact ⟨u, eu, fin r x p⟩
    · rw [if_neg q] at p
      exact p.elim
  · exact p.elim
theorem PE.const {e : Expr} {v : AV} {u : V} (h : PE X e (tC u)) (k : ∀ c, RV G c v u) : IE G B W X e (mC v) := PE.imp h fun σ H Q ⟨c, _, _, eH, r, _, p⟩ => by
  subst eH
  exact fin r (k c) p
theorem ie_int {i : Int} {j : Nat} : IE G B W X (.Constant (.int i) j pos) (mC (.int i)) := PE.const pe_int fun _ => .int
theorem ie_bl {i : Bool} {j : Nat} : IE G B W X (.Constant (.bool i) j pos) (mC (.bl i)) := PE.const pe_bl fun _ => .bl
theorem ie_non {j : Nat} : IE G B W X (.Constant .none j pos) (mC .non) := PE.const pe_non fun _ => .non
theorem ie_str {x : Str} {j : Nat} (k : PyData.strOk x = true := by decide +kernel) : IE G B W X (.Constant (.str x) j pos) (mC (.str x)) := PE.const pe_str fun _ => .str k
/-- classes, functions of the module -/
theorem ie_cls (k : Nat) {x : Str} (hg : Gl X x) (hm : X.mg x = some (.ref (G.ca k))) (hd : (x == ("__debug__" : Str)) = false := by decide) : IE G B W X (.Name x pos) (mC (.cls k)) :=
  PE.const (pe_glob (v := .ref (G.ca k)) hg hm rfl hd) fun _ => .cls
theorem ie_fn (f : Nat) {x : Str} (hg : Gl X x) (hm : X.mg x = some (.ref (G.fa f))) (hd : (x == ("__debug__" : Str)) = false := by decide) : IE G B W X (.Name x pos) (mC (.fn f)) :=
  PE.const (pe_glob (v := .ref (G.fa f)) hg hm rfl hd) fun _ => .fn
theorem ie_kd (d : Nat) {x : Str} (hg : Gl X x) (hm : X.mg x = some (.ref (G.da d))) (hd : (x == ("__debug__" : Str)) = false := by decide) : IE G B W X (.Name x pos) (mC (.kd d)) :=
  PE.const (pe_glob (v := .ref (G.da d)) hg hm rfl hd) fun _ => .kd
/-- a built-in type's name -/
theorem ie_ty {x : Str} {n : String} (hg : Gl X x) (hm : X.mg x = none) (hv : bootBuiltins x = some (.type n)) (hn : x ≠ "__name__" := by decide) (hd : (x == ("__debug__" : Str)) = false := by decide) : IE G B W X (.Name x pos) (mC (.ty n)) :=
  PE.const (pe_bltn (v := .ty n) hg hm hv rfl hn hd) fun _ => .ty
/-- a module's constant: any value that the written part knows -/
def GV (G : Gx) (v : AV) (u : V) : Prop := ∀ c, RV G c v u
theorem ie_glob {x : Str} {v : AV} {u : V} {w : Value} (hg : Gl X x) (hm : X.mg x = some w) (hr : RelV u w) (hv : GV G v u) (hd : (x == ("__debug__" : Str)) = false := by decide) : IE G B W X (.Name x pos) (mC v) :=
  PE.const (pe_glob hg hm hr hd) hv
/-- by values -/
def PostO (G : Gx) (c : Cfg) (Q : VK) : Option (AV × AH) → Prop
  | some (v, h') => ∀ c' u, Nxt G c c' → c'.h = h' → RV G c' v u → Q u c'.H
  | none => False
theorem PostO.of {Q : VK} {W : XK} {o : Option (AV × AH)} (p : Post G (RV G) c W Q (.of o)) : PostO G c Q o := by
  rcases o with _ | ⟨v, h'⟩ <;> exact p
def AO1 (G : Gx) (k : AV → AH → Option (AV × AH)) (r : V → Hp → VK → Prop) : Prop := ∀ c v u Q, Rel G c → RV G c v u → PostO G c Q (k v c.h) → r u c.H Q
def AO2 (G : Gx) (k : AV → AV → AH → Option (AV × AH)) (r : R2) : Prop := ∀ c v w u x Q, Rel G c → RV G c v u → RV G c w x → PostO G c Q (k v w c.h) → r u x c.H Q
def AOL (G : Gx) (k : List AV → AH → Option (AV × AH)) (r : List V → Hp → VK → Prop) : Prop := ∀ c v u Q, Rel G c → RVs G c v u → PostO G c Q (k v c.h) → r u c.H Q
/-- two values in turn -/
theorem two {k : AV → AV → AH → Option (AV × AH)} {r : R2} (hk : AO2 G k r) {σ : SL} {H : Hp} {Q : VK} (t : tI G B W (mBin k m n) σ H Q) : tI G B W m σ H fun x H1 => tI G B W n σ H1 fun y H2 => r x y H2 Q := by
  obtain ⟨c, τ, L, eH, rl, s, p⟩ := t
  refine ⟨c, τ, L, eH, rl, s, (Post.bind (R := RV G) p).imp fun u H1 ⟨c1, v, e1, N1, x1, p1⟩ => ?_⟩
  refine ⟨c1, τ, L, e1.symm, N1.rel, s.nxt N1, (Post.bind (R := RV G) p1).imp fun u2 H2 ⟨c2, w, e2, N2, x2, p2⟩ => ?_⟩
  subst e2
  exact hk c2 v w u u2 Q N2.rel (x1.mono N2.mv) x2 (PostO.of p2)
theorem ie_op {op : Operator} {k : AV → AV → AH → Option (AV × AH)} {r : R2} (ho : OpR X (binaryOp op) r) (hk : AO2 G k r) (ha : IE G B W X a m) (hb : IE G B W X b n) : IE G B W X (.BinOp a op b pos) (mBin k m n) :=
  PE.imp (pe_op ho ha hb) fun _ _ _ t => two hk t
theorem ie_cmp {op : CmpOp} {k : AV → AV → AH → Option (AV × AH)} {r : R2} (ho : OpR X (compareOp op) r) (hk : AO2 G k r) (ha : IE G B W X a m) (hb : IE G B W X b n) (hm : behindInMarks op b = false := by first | exact nomark _ | rfl) :
    IE G B W X (.Compare a [op] [b] pos) (mBin k m n) :=
  PE.imp (pe_cmpR ho ha hb hm) fun _ _ _ t => two hk t
theorem ie_un {op : UnaryOp} {k : AV → AH → Option (AV × AH)} {r : V → Hp → VK → Prop} (ho : UnR X (unaryOp op) r) (hk : AO1 G k r) (ha : IE G B W X a m) : IE G B W X (.UnaryOp op a pos) (mUn k m) := by
  refine PE.imp (pe_un ho ha) fun σ H Q ⟨c, τ, L, eH, rl, s, p⟩ => ?_
  refine ⟨c, τ, L, eH, rl, s, (Post.bind (R := RV G) p).imp fun u H1 ⟨c1, v, e1, N1, x1, p1⟩ => ?_⟩
  subst e1
  exact hk c1 v u Q N1.rel x1 (PostO.of p1)
theorem ie_ix {k : AV → AV → AH → Option (AV × AH)} {r : R2} (ho : IxR X r) (hk : AO2 G k r) (ha : IE G B W X a m) (hb : IE G B W X b n) (hs : PlainIx b := by exact fun _ _ => rfl) : IE G B W X (.Subscript a b pos) (mBin k m n) :=
  PE.imp (pe_ix ho ha hb hs) fun _ _ _ t => two hk t
/-- tests -/
theorem as_bool {W : XK} {v : AV} {u : V} {Q : Bool → Hp → Prop} (r : Rel G c) (x : RV G c v u) (p : Post G (fun _ (a b : Bool) => a = b) c W Q (.of ((boolOf v).map fun b => (b, c.h)))) : ∃ k, u = .bl k ∧ Q k c.H := by
  cases x with
  | bl => exact ⟨_, rfl, p c _ (.refl r) rfl rfl⟩
  | _ => exact p.elim
theorem it_of (he : IE G B W X a m) (hw : ∀ whole, isTrue a X.env whole = (do let v ← whole; standAt a.pos; holding [v] (truthy v)) := by intro _; rfl) : IT G B W X a (mB m) := by
  refine PT.imp (pt_val he hw) fun σ H Q ⟨c, τ, L, eH, rl, s, p⟩ => ?_
  refine ⟨c, τ, L, eH, rl, s, (Post.bind (R := RV G) p).imp fun u H1 ⟨c1, v, e1, N1, x1, p1⟩ => ?_⟩
  subst e1
  exact as_bool N1.rel x1 p1
theorem it_cmp {op : CmpOp} {k : AV → AV → AH → Option (AV × AH)} {r : R2} (ho : OpR X (compareOp op) r) (hk : AO2 G k r) (ha : IE G B W X a m) (hb : IE G B W X b n) (hm : behindInMarks op b = false := by first | exact nomark _ | rfl) :
    IT G B W X (.Compare a [op] [b] pos) (mB (mBin k m n)) := by
  refine PT.imp (pt_cmpR ho ha hb hm) fun σ H Q ⟨c, τ, L, eH, rl, s, p⟩ => ?_
  refine two hk (Q := fun x H' => ∃ k, x = .bl k ∧ Q k H') ⟨c, τ, L, eH, rl, s, (Post.bind (R := RV G) p).imp fun u H1 ⟨c1, v, e1, N1, x1, p1⟩ => ?_⟩
  subst e1
  exact as_bool N1.rel x1 p1
theorem tbind {γ δ : Type} {R' : RR γ δ} {W : XK} {Q : δ → Hp → Prop} {f : Bool → AH → Res γ} {r : Res Bool} (p : Post G R' c W Q (r.bind f)) :
    Post G (fun _ (a b : Bool) => a = b) c W (fun b H1 => ∃ c1, H1 = c1.H ∧ Nxt G c c1 ∧ Post G R' c1 W Q (f b c1.h)) r :=
  (Post.bind (R := fun _ (a b : Bool) => a = b) p).imp fun u H1 ⟨c1, v, e1, N1, x1, p1⟩ => ⟨c1, e1, N1, by subst x1; exact p1⟩
theorem fint {W : XK} {b : Bool} {Q : Bool → Hp → Prop} (r : Rel G c) (p : Post G (fun _ (a b : Bool) => a = b) c W Q (.ok b c.h)) : Q b c.H := p c b (.refl r) rfl rfl
theorem it_not (ha : IT G B W X a mt) : IT G B W X (.UnaryOp .Not a pos) (mTNot mt) := by
  refine PT.imp (pt_not ha) fun σ H Q ⟨c, τ, L, eH, rl, s, p⟩ => ?_
  refine ⟨c, τ, L, eH, rl, s, (tbind p).imp fun u H1 ⟨c1, e1, N1, p1⟩ => ?_⟩
  subst e1
  exact fint N1.rel p1
theorem IW.it (hx : IW G B W X a mt) : IT G B W X a mt := PW.pt hx
theorem iw_and1 (ha : IT G B W X a mt) : IW G B W X (.BoolOp .And [a] pos) mt := pw_and1 ha
theorem iw_or1 (ha : IT G B W X a mt) : IW G B W X (.BoolOp .Or [a] pos) mt := pw_or1 ha
theorem iw_and (ha : IT G B W X a mt) (hb : IW G B W X (.BoolOp .And (b :: es) pos) nt) : IW G B W X (.BoolOp .And (a :: b :: es) pos) (mTAnd mt nt) := by
  refine PW.imp (pw_and ha hb) fun σ H Q ⟨c, τ, L, eH, rl, s, p⟩ => ?_
  refine ⟨c, τ, L, eH, rl, s, (tbind p).imp fun u H1 ⟨c1, e1, N1, p1⟩ => ?_⟩
  subst e1
  cases u with
  | true => exact ⟨c1, τ, L, rfl, N1.rel, s.nxt N1, p1⟩
  | false => exact fint N1.rel p1
theorem iw_or (ha : IT G B W X a mt) (hb : IW G B W X (.BoolOp .Or (b :: es) pos) nt) : IW G B W X (.BoolOp .Or (a :: b :: es) pos) (mTOr mt nt) := by
  refine PW.imp (pw_or ha hb) fun σ H Q ⟨c, τ, L, eH, rl, s, p⟩ => ?_
  refine ⟨c, τ, L, eH, rl, s, (tbind p).imp fun u H1 ⟨c1, e1, N1, p1⟩ => ?_⟩
  subst e1
  cases u with
  | false => exact ⟨c1, τ, L, rfl, N1.rel, s.nxt N1, p1⟩
  | true => exact fint N1.rel p1
theorem ie_if (hc : IT G B W X e3 mt) (ha : IE G B W X a m) (hb : IE G B W X b n) : IE G B W X (.IfExp e3 a b pos) (mIf mt m n) := by
  refine PE.imp (pe_ifExp hc ha hb) fun σ H Q ⟨c, τ, L, eH, rl, s, p⟩ => ?_
  refine ⟨c, τ, L, eH, rl, s, (tbind p).imp fun u H1 ⟨c1, e1, N1, p1⟩ => ?_⟩
  subst e1
  cases u with
  | true => exact ⟨c1, τ, L, rfl, N1.rel, s.nxt N1, p1⟩
  | false => exact ⟨c1, τ, L, rfl, N1.rel, s.nxt N1, p1⟩
/-- and, or, not as values (bools ahead) -/
theorem ie_one {op : BoolOp} (ha : IE G B W X a m) : IE G B W X (.BoolOp op [a] pos) m := pe_one ha
theorem ie_and (ha : IE G B W X a m) (hb : IE G B W X (.BoolOp .And (b :: es) pos) n) : IE G B W X (.BoolOp .And (a :: b :: es) pos) (mAndV m n) := by
  refine PE.imp (pe_and ha hb) fun σ H Q ⟨c, τ, L, eH, rl, s, p⟩ => ?_
  refine ⟨c, τ, L, eH, rl, s, (Post.bind (R := RV G) p).imp fun u H1 ⟨c1, v, e1, N1, x1, p1⟩ => ?_⟩
  subst e1
  cases x1 with
  | @bl bb =>
    refine ⟨_, rfl, ?_⟩
    cases bb with
    | true => exact ⟨c1, τ, L, rfl, N1.rel, s.nxt N1, p1⟩
    | false => exact fin N1.rel .bl p1
  | _ => exact p1.elim
theorem ie_or (ha : IE G B W X a m) (hb : IE G B W X (.BoolOp .Or (b :: es) pos) n) : IE G B W X (.BoolOp .Or (a :: b :: es) pos) (mOrV m n) := by
  refine PE.imp (pe_or ha hb) fun σ H Q ⟨c, τ, L, eH, rl, s, p⟩ => ?_
  refine ⟨c, τ, L, eH, rl, s, (Post.bind (R := RV G) p).imp fun u H1 ⟨c1, v, e1, N1, x1, p1⟩ => ?_⟩
  subst e1
  cases x1 with
  | @bl bb =>
    refine ⟨_, rfl, ?_⟩
    cases bb with
    | false => exact ⟨c1, τ, L, rfl, N1.rel, s.nxt N1, p1⟩
    | true => exact fin N1.rel .bl p1
  | _ => exact p1.elim
theorem ie_not (ha : IE G B W X a m) : IE G B W X (.UnaryOp .Not a pos) (mNotV m) := by
  refine PE.imp (pe_not ha) fun σ H Q ⟨c, τ, L, eH, rl, s, p⟩ => ?_
  refine ⟨c, τ, L, eH, rl, s, (Post.bind (R := RV G) p).imp fun u H1 ⟨c1, v, e1, N1, x1, p1⟩ => ?_⟩
  subst e1
  cases x1 with
  | bl => exact ⟨_, rfl, fin N1.rel .bl p1⟩
  | _ => exact p1.elim
/-! ### lists of expressions, displays, calls of built-ins by name -/
theorem ia_nil : IA G B W X [] mNil := PA.imp pa_nil fun σ H Q ⟨c, τ, L, eH, rl, s, p⟩ => by
  subst eH
  exact p c _ (.refl rl) rfl .nil
theorem ia_cons (ha : IE G B W X a m) (hr : IA G B W X es ma) (hs : starEach (a :: es) X.env = (false, eval a X.env) :: starEach es X.env := by rfl) : IA G B W X (a :: es) (mCons m ma) := by
  refine PA.imp (pa_cons ha hr hs) fun σ H Q ⟨c, τ, L, eH, rl, s, p⟩ => ?_
  refine ⟨c, τ, L, eH, rl, s, (Post.bind (R := RV G) p).imp fun u H1 ⟨c1, v, e1, N1, x1, p1⟩ => ?_⟩
  refine ⟨c1, τ, L, e1.symm, N1.rel, s.nxt N1, (Post.bind (R := RVs G) p1).imp fun us H2 ⟨c2, vs, e2, N2, x2, p2⟩ => ?_⟩
  subst e2
  exact p2 c2 _ (.refl N2.rel) rfl (.cons (x1.mono N2.mv) x2)
theorem many {k : List AV → AH → Option (AV × AH)} {r : List V → Hp → VK → Prop} (hk : AOL G k r) {σ : SL} {H : Hp} {Q : VK} (t : tI G B W (mL k ma) σ H Q) : tIa G B W ma σ H fun xs H1 => r xs H1 Q := by
  obtain ⟨c, τ, L, eH, rl, s, p⟩ := t
  refine ⟨c, τ, L, eH, rl, s, (Post.bind (R := RVs G) p).imp fun u H1 ⟨c1, v, e1, N1, x1, p1⟩ => ?_⟩
  subst e1
  exact hk c1 v u Q N1.rel x1 (PostO.of p1)
def small (n : Nat) : Bool := decide (n ≤ 16777216)
theorem small_le {n : Nat} (e : small n = true) : n ≤ sizeLine := by
  have q := of_decide_eq_true e
  rw [sizeLine_eq]
  exact q
def kTup (vs : List AV) (h : AH) : Option (AV × AH) := if small vs.length then some (.tup vs, h) else none
def kFl (vs : List AV) (h : AH) : Option (AV × AH) := if small vs.length then some (.fl vs, h) else none
def kLst (vs : List AV) (h : AH) : Option (AV × AH) := if small vs.length then some (.ref h.length, h ++ [some (.lst vs)]) else none
theorem ie_tup {k : Nat} (ha : IA G B W X es ma) : IE G B W X (.Tuple es k pos) (mL kTup ma) := by
  refine PE.imp (pe_tup ha) fun σ H Q t => many (r := fun xs H1 Q => xs.length ≤ sizeLine ∧ ∀ p, H1 p = none → Q (.ref p) (upd H1 p (.tup xs))) (fun c v u Q rl x p => ?_) t
  unfold kTup at p
  by_cases e : small v.length = true
  · rw [if_pos e] at p
    refine ⟨by rw [← x.length]; exact small_le e, fun q hq => ?_⟩
    have N := Nxt.temp (O := .tup u) rl hq
    exact p _ _ N rfl (.tup (.inl upd_same) (rl.frz hq) (x.mono N.mv))
  · rw [if_neg e] at p
    exact p.elim
theorem ie_fl (ha : IA G B W X es ma) : IE G B W X (.List es pos) (mL kFl ma) := by
  refine PE.imp (pe_lst ha) fun σ H Q t => many (r := fun xs H1 Q => xs.length ≤ sizeLine ∧ ∀ p, H1 p = none → Q (.ref p) (upd H1 p (.lst xs))) (fun c v u Q rl x p => ?_) t
  unfold kFl at p
  by_cases e : small v.length = true
  · rw [if_pos e] at p
    refine ⟨by rw [← x.length]; exact small_le e, fun q hq => ?_⟩
    have N := Nxt.temp (O := .lst u) rl hq
    exact p _ _ N rfl (.fl (.inl upd_same) (rl.frz hq) (x.mono N.mv))
  · rw [if_neg e] at p
    exact p.elim
theorem ie_lst (ha : IA G B W X es ma) : IE G B W X (.List es pos) (mL kLst ma) := by
  refine PE.imp (pe_lst ha) fun σ H Q t => many (r := fun xs H1 Q => xs.length ≤ sizeLine ∧ ∀ p, H1 p = none → Q (.ref p) (upd H1 p (.lst xs))) (fun c v u Q rl x p => ?_) t
  unfold kLst at p
  by_cases e : small v.length = true
  · rw [if_pos e] at p
    refine ⟨by rw [← x.length]; exact small_le e, fun q hq => ?_⟩
    have N := Nxt.alloc (o := .lst v) (H' := upd c.H q (.lst u)) rl hq (fun b o z => by rw [upd_ne (ne_of_none z hq)]; exact z) fun c' M e => ⟨u, by rw [e, upd_same], x.mono M⟩
    have y : RV G { c with rho := ext c.rho c.h.length q, h := c.h ++ [some (.lst v)], H := upd c.H q (.lst u) } (.ref c.h.length) (.ref (ext c.rho c.h.length q c.h.length)) := .ref (by simp)
    rw [ext_same] at y
    exact p _ _ N rfl y
  · rw [if_neg e] at p
    exact p.elim
/-- a built-in function, a built-in type, called by its name -/
theorem ie_callB {x : Str} {p : Pos} {id : String} {r : List V → Hp → VK → Prop} {k : List AV → AH → Option (AV × AH)} (hc : CallR X (.builtin id) r) (hk : AOL G k r) (hg : Gl X x) (hm : X.mg x = none) (hv : bootBuiltins x = some (.builtin id)) (ha : IA G B W X (a :: es) ma) (hn : x ≠ "__name__" := by decide) (hdb : (x == ("__debug__" : Str)) = false := by decide)
    (he : starEach (a :: es) X.env = (false, eval a X.env) :: starEach es X.env := by rfl) (hpl : (backTo pos (starEach es X.env)).any (·.1) = false := by rfl) : IE G B W X (.Call (.Name x p) (a :: es) [] pos) (mL k ma) :=
  PE.imp (pe_callB hc hg hm hv ha hn hdb he hpl) fun _ _ _ t => many hk t
theorem ie_callTy {x : Str} {p : Pos} {T : String} {r : List V → Hp → VK → Prop} {k : List AV → AH → Option (AV × AH)} (hc : CallR X (.type T) r) (hk : AOL G k r) (hg : Gl X x) (hm : X.mg x = none) (hv : bootBuiltins x = some (.type T)) (ha : IA G B W X (a :: es) ma) (hn : x ≠ "__name__" := by decide) (hdb : (x == ("__debug__" : Str)) = false := by decide)
    (he : starEach (a :: es) X.env = (false, eval a X.env) :: starEach es X.env := by rfl) (hpl : (backTo pos (starEach es X.env)).any (·.1) = false := by rfl) : IE G B W X (.Call (.Name x p) (a :: es) [] pos) (mL k ma) :=
  PE.imp (pe_callTy hc hg hm hv ha hn hdb he hpl) fun _ _ _ t => many hk t
end
end PI
/-! PIs: statements. -/
namespace PI
open PySem PySem.Spec PyProof.Rows L2
inductive SRes where
  | nx (τ : AS) (h : AH) | rt (v : AV) (h : AH) | bk (τ : AS) (h : AH) | ct (τ : AS) (h : AH) | exc (x : XC) (fs : List (Nat × AV)) (τ : AS) (h : AH) | stuck
abbrev MS := AS → AH → SRes
def Res.bindS {α : Type} (r : Res α) (τ : AS) (f : α → AH → SRes) : SRes := match r with
  | .ok a h => f a h
  | .exc x fs h => .exc x fs τ h
  | .stuck => .stuck
/-- zs: what the callers' slots alone hold; L: what this frame's slots alone hold -/
structure Own (zs : Addr → Prop) (L : List Addr) (c : Cfg) : Prop where
  low : ∀ a, zs a → c.Z a
  dis : ∀ a, a ∈ L → ¬ zs a
  nd : L.Nodup
structure Stp (G : Gx) (zs : Addr → Prop) (L : List Addr) (c : Cfg) (L' : List Addr) (c' : Cfg) : Prop where
  rel : Rel G c'
  mv : Mv c c'
  own : Own zs L' c'
  zz : ∀ a, zs a → c'.H a = c.H a
  new : ∀ a, a ∈ L' → a ∈ L ∨ c.H a = none
section
variable {G : Gx} {B : Bx} {zs : Addr → Prop} {L L1 L2 : List Addr} {c c1 c2 : Cfg}
theorem Stp.refl (r : Rel G c) (o : Own zs L c) : Stp G zs L c L c := ⟨r, .refl, o, fun _ _ => rfl, fun _ h => .inl h⟩
theorem Stp.trans (A : Stp G zs L c L1 c1) (B : Stp G zs L1 c1 L2 c2) : Stp G zs L c L2 c2 :=
  ⟨B.rel, A.mv.trans B.mv, B.own, fun a z => (B.zz a z).trans (A.zz a z), fun a h => by
    rcases B.new a h with h | h
    · exact A.new a h
    · cases q : c.H a with
      | none => exact .inr rfl
      | some o =>
        obtain ⟨o', e⟩ := A.mv.there a o q
        rw [h] at e; cases e⟩
theorem Stp.of (N : Nxt G c c1) (o : Own zs L c) : Stp G zs L c L c1 :=
  ⟨N.rel, N.mv, ⟨fun a z => by rw [N.z]; exact o.low a z, o.dis, o.nd⟩, fun a z => N.zz a (o.low a z), fun _ h => .inl h⟩
end
/-- what is wanted behind a statement -/
def PostS (G : Gx) (B : Bx) (zs : Addr → Prop) (L : List Addr) (c : Cfg) (W : WX) (D : Ends) : SRes → Prop
  | .nx τ h => ∀ c' L' σ, Stp G zs L c L' c' → c'.h = h → RS G B c' L' τ σ → D.nx σ c'.H
  | .rt v h => ∀ c' L' u, Stp G zs L c L' c' → c'.h = h → RV G c' v u → D.rt u c'.H
  | .bk τ h => ∀ c' L' σ, Stp G zs L c L' c' → c'.h = h → RS G B c' L' τ σ → D.bk σ c'.H
  | .ct τ h => ∀ c' L' σ, Stp G zs L c L' c' → c'.h = h → RS G B c' L' τ σ → D.ct σ c'.H
  | .exc x fs τ h => ∀ c' L' σ k d, Stp G zs L c L' c' → c'.h = h → RX G c' x fs k d → RS G B c' L' τ σ → W k d σ c'.H
  | .stuck => False
section
variable {G : Gx} {B : Bx} {zs : Addr → Prop} {L L1 : List Addr} {c c1 : Cfg} {W : WX} {D : Ends} {τ : AS} {σ : SL} {α β : Type} {R : RR α β}
theorem PostS.trans (S : Stp G zs L c L1 c1) {r : SRes} (p : PostS G B zs L c W D r) : PostS G B zs L1 c1 W D r := by
  cases r with
  | nx τ h => exact fun c' L' σ T => p c' L' σ (S.trans T)
  | rt v h => exact fun c' L' u T => p c' L' u (S.trans T)
  | bk τ h => exact fun c' L' σ T => p c' L' σ (S.trans T)
  | ct τ h => exact fun c' L' σ T => p c' L' σ (S.trans T)
  | exc x fs τ h => exact fun c' L' σ k d T => p c' L' σ k d (S.trans T)
  | stuck => exact p
theorem PostS.bindS {r : Res α} {f : α → AH → SRes} (o : Own zs L c) (s : RS G B c L τ σ) (p : PostS G B zs L c W D (r.bindS τ f)) :
    Post G R c (fun k d H' => W k d σ H') (fun u H1 => ∃ c1 v, c1.H = H1 ∧ Nxt G c c1 ∧ R c1 v u ∧ PostS G B zs L c1 W D (f v c1.h)) r := by
  cases r with
  | ok v h1 => exact fun c2 u N e q => ⟨c2, v, rfl, N, q, by rw [e]; exact PostS.trans (Stp.of N o) p⟩
  | exc x fs h1 => exact fun c2 k d N e q => p c2 L σ k d (Stp.of N o) e q (s.nxt N)
  | stuck => exact p
theorem Own.nxt (o : Own zs L c) (N : Nxt G c c1) : Own zs L c1 := (Stp.of N o).own
end
/-- readings -/
def tS (G : Gx) (B : Bx) (zs : Addr → Prop) (W : WX) (m : MS) : TS := fun D σ H => ∃ c τ L, c.H = H ∧ Rel G c ∧ Own zs L c ∧ RS G B c L τ σ ∧ PostS G B zs L c W D (m τ c.h)
def IS (G : Gx) (B : Bx) (zs : Addr → Prop) (W : WX) (X : Cx) (st : Stmt) (m : MS) : Prop := PS X st (tS G B zs W m)
def ISs (G : Gx) (B : Bx) (zs : Addr → Prop) (W : WX) (X : Cx) (st : List Stmt) (m : MS) : Prop := PSs X st (tS G B zs W m)
theorem PS.imp {X : Cx} {st : Stmt} {t t' : TS} (h : PS X st t) (f : ∀ D σ H, t' D σ H → t D σ H) : PS X st t' := ⟨fun pins s σ H D I q => h.run pins s σ H D I (f _ _ _ q)⟩
theorem PSs.imp {X : Cx} {st : List Stmt} {t t' : TS} (h : PSs X st t) (f : ∀ D σ H, t' D σ H → t D σ H) : PSs X st t' := ⟨fun pins s σ H D I q => h.run pins s σ H D I (f _ _ _ q)⟩
/-! ### the machines -/
def sSkip : MS := fun τ h => .nx τ h
def sSeq (m n : MS) : MS := fun τ h => match m τ h with
  | .nx τ h => n τ h
  | r => r
def sSet (i : Nat) (m : ME) : MS := fun τ h => (m τ h).bindS τ fun v h => if i < τ.length then .nx (τ.set i (some v)) h else .stuck
def sExpr (m : ME) : MS := fun τ h => (m τ h).bindS τ fun _ h => .nx τ h
def sRet (m : ME) : MS := fun τ h => (m τ h).bindS τ fun v h => .rt v h
def sRetN : MS := fun _ h => .rt .non h
def sIf (c : MT) (m n : MS) : MS := fun τ h => (c τ h).bindS τ fun b h => if b then m τ h else n τ h
def sBrk : MS := fun τ h => .bk τ h
def sCont : MS := fun τ h => .ct τ h
/-- targets -/
abbrev MG := AV → AS → Option AS
def gN (i : Nat) : MG := fun v τ => if i < τ.length then some (τ.set i (some v)) else none
def gsNil : List AV → AS → Option AS := fun vs τ => if vs.isEmpty then some τ else none
def gsCons (g : MG) (gs : List AV → AS → Option AS) : List AV → AS → Option AS := fun vs τ => match vs with
  | [] => none
  | v :: r => (g v τ).bind fun τ' => gs r τ'
def seqOf : AV → Option (List AV)
  | .tup xs => some xs
  | .fl xs => some xs
  | _ => none
def gT (n : Nat) (gs : List AV → AS → Option AS) : MG := fun v τ => (seqOf v).bind fun xs => if xs.length = n then gs xs τ else none
def sAsg (g : MG) (m : ME) : MS := fun τ h => (m τ h).bindS τ fun v h => match g v τ with
  | some τ' => .nx τ' h
  | none => .stuck
/-- a for over things that are told ahead -/
def forL (g : MG) (b : MS) : List AV → AS → AH → SRes
  | [], τ, h => .nx τ h
  | v :: r, τ, h => match g v τ with
    | none => .stuck
    | some τ1 => match b τ1 h with
      | .nx τ2 h2 => forL g b r τ2 h2
      | .ct τ2 h2 => forL g b r τ2 h2
      | .bk τ2 h2 => .nx τ2 h2
      | q => q
def sFor (g : MG) (mi : MA) (b : MS) : MS := fun τ h => (mi τ h).bindS τ fun vs h => forL g b vs τ h
def whileL (c : MT) (b : MS) : Nat → AS → AH → SRes
  | 0, _, _ => .stuck
  | n + 1, τ, h => (c τ h).bindS τ fun t h => if t then (match b τ h with
      | .nx τ2 h2 => whileL c b n τ2 h2
      | .ct τ2 h2 => whileL c b n τ2 h2
      | .bk τ2 h2 => .nx τ2 h2
      | q => q) else .nx τ h
def sWhile (n : Nat) (c : MT) (b : MS) : MS := fun τ h => whileL c b n τ h
/-! ### the rules -/
section
variable {G : Gx} {B : Bx} {zs : Addr → Prop} {W : WX} {X : Cx} {c c' : Cfg} {H H' : Hp} {a b e : Expr} {es : List Expr} {m n : ME} {ma : MA} {mt nt : MT} {ms ns : MS} {pos : Pos} {st : Stmt} {sts : List Stmt}
theorem is_doc {x : Str} {j : Nat} {pos' : Pos} : IS G B zs W X (.Expr (.Constant (.str x) j pos) pos') sSkip := PS.imp ps_doc fun D σ H ⟨c, τ, L, eH, r, o, s, p⟩ => by
  subst eH
  exact p c L σ (.refl r o) rfl s
theorem is_pass : IS G B zs W X (.Pass pos) sSkip := PS.imp ps_pass fun D σ H ⟨c, τ, L, eH, r, o, s, p⟩ => by
  subst eH
  exact p c L σ (.refl r o) rfl s
theorem is_brk : IS G B zs W X (.Break pos) sBrk := PS.imp ps_break fun D σ H ⟨c, τ, L, eH, r, o, s, p⟩ => by
  subst eH
  exact p c L σ (.refl r o) rfl s
theorem is_cont : IS G B zs W X (.Continue pos) sCont := PS.imp ps_continue fun D σ H ⟨c, τ, L, eH, r, o, s, p⟩ => by
  subst eH
  exact p c L σ (.refl r o) rfl s
theorem iss_nil : ISs G B zs W X [] sSkip := PSs.imp pss_nil fun D σ H ⟨c, τ, L, eH, r, o, s, p⟩ => by
  subst eH
  exact p c L σ (.refl r o) rfl s
theorem iss_one (h1 : IS G B zs W X st ms) : ISs G B zs W X [st] ms := pss_one h1
theorem seq_ok {D : Ends} {L : List Addr} {r : SRes} {n : MS} (p : PostS G B zs L c W D (match r with | .nx τ h => n τ h | r => r)) : PostS G B zs L c W { D with nx := tS G B zs W n D } r := by
  cases r with
  | nx τ h => exact fun c' L' σ S e s => ⟨c', τ, L', rfl, S.rel, S.own, s, by rw [e]; exact PostS.trans S p⟩
  | rt v h => exact p
  | bk τ h => exact p
  | ct τ h => exact p
  | exc x fs τ h => exact p
  | stuck => exact p
theorem iss_cons (h1 : IS G B zs W X st ms) (h2 : ISs G B zs W X sts ns) : ISs G B zs W X (st :: sts) (sSeq ms ns) := PSs.imp (pss_cons h1 h2) fun D σ H ⟨c, τ, L, eH, r, o, s, p⟩ =>
  ⟨c, τ, L, eH, r, o, s, seq_ok p⟩
theorem is_expr (he : IE G B W X e m) (hs : swapsWith e none pos.line X.env = pure false := by rfl) : IS G B zs W X (.Expr e pos) (sExpr m) := PS.imp (ps_expr he hs) fun D σ H ⟨c, τ, L, eH, r, o, s, p⟩ => by
  refine ⟨c, τ, L, eH, r, s, (PostS.bindS (R := RV G) o s p).imp fun u H1 ⟨c1, v, e1, N1, x1, p1⟩ => ?_⟩
  subst e1
  exact p1 c1 L σ (.refl N1.rel (o.nxt N1)) rfl (s.nxt N1)
theorem is_ret (he : IE G B W X e m) : IS G B zs W X (.Return (some e) pos) (sRet m) := PS.imp (ps_ret he) fun D σ H ⟨c, τ, L, eH, r, o, s, p⟩ => by
  refine ⟨c, τ, L, eH, r, s, (PostS.bindS (R := RV G) o s p).imp fun u H1 ⟨c1, v, e1, N1, x1, p1⟩ => ?_⟩
  subst e1
  exact p1 c1 L u (.refl N1.rel (o.nxt N1)) rfl x1
theorem is_retN : IS G B zs W X (.Return none pos) sRetN := PS.imp ps_retN fun D σ H ⟨c, τ, L, eH, r, o, s, p⟩ => by
  subst eH
  exact p c L .non (.refl r o) rfl .non
theorem is_if {sa sb : List Stmt} (hc : IT G B W X e mt) (ha : ISs G B zs W X sa ms) (hb : ISs G B zs W X sb ns) : IS G B zs W X (.If e sa sb pos) (sIf mt ms ns) := PS.imp (ps_if hc ha hb) fun D σ H ⟨c, τ, L, eH, r, o, s, p⟩ => by
  refine ⟨c, τ, L, eH, r, s, (PostS.bindS (R := fun _ (a b : Bool) => a = b) o s p).imp fun u H1 ⟨c1, v, e1, N1, x1, p1⟩ => ?_⟩
  subst e1
  subst x1
  cases v with
  | true => exact ⟨c1, τ, L, rfl, N1.rel, o.nxt N1, s.nxt N1, p1⟩
  | false => exact ⟨c1, τ, L, rfl, N1.rel, o.nxt N1, s.nxt N1, p1⟩
/-- a value is put into a slot -/
theorem RS.put {L : List Addr} {τ : AS} {σ : SL} {i : Nat} {v : AV} {u : V} (r : Rel G c) (o : Own zs L c) (s : RS G B c L τ σ) (hi : i < τ.length) (x : RV G c v u) :
    ∃ L', Stp G zs L c L' c ∧ RS G B c L' (τ.set i (some v)) (σ.set i (some u)) := by
  obtain ⟨P, S, l, t, e1, e2, y, f⟩ := s.focus (i := i) (o := τ[i]) (List.getElem?_eq_getElem hi)
  have q := f c [] (some v) (some u) .refl (fun a h => ⟨s.z a (by rw [e1]; simp at h ⊢; rcases h with h | h <;> simp [h]), rfl⟩) (.val x)
  have sub : ∀ a, a ∈ P ++ [] ++ S → a ∈ L := fun a h => by rw [e1]; simp at h ⊢; rcases h with h | h <;> simp [h]
  refine ⟨_, ⟨r, .refl, ⟨o.low, fun a h => o.dis a (sub a h), ?_⟩, fun _ _ => rfl, fun a h => .inl (sub a h)⟩, q⟩
  have nd := o.nd
  rw [e1] at nd
  simp only [List.append_nil]
  exact nd.sublist (List.Sublist.append (List.sublist_append_left P l) (List.Sublist.refl S))
theorem is_set (i : Nat) {x : Str} {pos' : Pos} (hN : X.N.Nodup) (he : IE G B W X e m) (hi : X.N[i]? = some x := by rfl) (hx : Loc X.env.scope x := by first | exact Or.inl rfl | exact Or.inr rfl) (hs : swapsWith e (some (.Name x pos')) pos.line X.env = pure false := by rfl) (hf : X.fn x = true ∨ X.env.scope.names.lookup x = some .local := by first | exact .inl rfl | exact .inr rfl | assumption) :
    IS G B zs W X (.Assign [.Name x pos'] e pos) (sSet i m) := PS.imp (ps_set hN hi hx he hs hf) fun D σ H ⟨c, τ, L, eH, r, o, s, p⟩ => by
  refine ⟨c, τ, L, eH, r, s, (PostS.bindS (R := RV G) o s p).imp fun u H1 ⟨c1, v, e1, N1, x1, p1⟩ => ?_⟩
  subst e1
  by_cases hl : i < τ.length
  · rw [if_pos hl] at p1
    obtain ⟨L', S, s'⟩ := RS.put N1.rel (o.nxt N1) (s.nxt N1) hl x1
    exact p1 c1 L' _ S rfl s'
  · rw [if_neg hl] at p1
    exact p1.elim
/-! targets -/
def tG (G : Gx) (B : Bx) (zs : Addr → Prop) (g : MG) : TG := fun u σ H Q => ∃ c τ L v τ', c.H = H ∧ Rel G c ∧ Own zs L c ∧ RS G B c L τ σ ∧ RV G c v u ∧ g v τ = some τ' ∧ ∀ c' L' σ', Stp G zs L c L' c' → c'.h = c.h → RS G B c' L' τ' σ' → Q σ' c'.H
def tGs (G : Gx) (B : Bx) (zs : Addr → Prop) (g : List AV → AS → Option AS) : TGs := fun us σ H Q => ∃ c τ L vs τ', c.H = H ∧ Rel G c ∧ Own zs L c ∧ RS G B c L τ σ ∧ RVs G c vs us ∧ g vs τ = some τ' ∧ ∀ c' L' σ', Stp G zs L c L' c' → c'.h = c.h → RS G B c' L' τ' σ' → Q σ' c'.H
theorem PG.imp {t t' : TG} (h : PG X e t) (f : ∀ u σ H Q, t' u σ H Q → t u σ H Q) : PG X e t' := ⟨fun pins s σ H v u Q I r q => h.run pins s σ H v u Q I r (f _ _ _ _ q)⟩
theorem PGs.imp {t t' : TGs} (h : PGs X es t) (f : ∀ u σ H Q, t' u σ H Q → t u σ H Q) : PGs X es t' := ⟨fun pins s σ H v u Q I r q => h.run pins s σ H v u Q I r (f _ _ _ _ q)⟩
theorem PG.or {t t' : TG} (h : PG X e t) (h' : PG X e t') : PG X e (fun u σ H Q => t u σ H Q ∨ t' u σ H Q) := ⟨fun pins s σ H v u Q I r q => q.elim (h.run pins s σ H v u Q I r) (h'.run pins s σ H v u Q I r)⟩
def IG (G : Gx) (B : Bx) (zs : Addr → Prop) (X : Cx) (e : Expr) (g : MG) : Prop := PG X e (tG G B zs g)
def IGs (G : Gx) (B : Bx) (zs : Addr → Prop) (X : Cx) (es : List Expr) (g : List AV → AS → Option AS) : Prop := PGs X es (tGs G B zs g)
theorem ig_name (i : Nat) {x : Str} (hN : X.N.Nodup) (hi : X.N[i]? = some x := by rfl) (hx : Loc X.env.scope x := by first | exact Or.inl rfl | exact Or.inr rfl) (hf : X.fn x = true ∨ X.env.scope.names.lookup x = some .local := by first | exact .inl rfl | exact .inr rfl | assumption) : IG G B zs X (.Name x pos) (gN i) :=
  PG.imp (pg_name hN hi hx hf) fun u σ H Q ⟨c, τ, L, v, τ', eH, r, o, s, x, e, k⟩ => by
  unfold gN at e
  by_cases hl : i < τ.length
  · rw [if_pos hl] at e
    cases e
    obtain ⟨L', S, s'⟩ := RS.put r o s hl x
    subst eH
    exact k c L' _ S rfl s'
  · rw [if_neg hl] at e
    cases e
theorem igs_nil : IGs G B zs X [] gsNil := PGs.imp pgs_nil fun us σ H Q ⟨c, τ, L, vs, τ', eH, r, o, s, x, e, k⟩ => by
  cases x with
  | nil =>
    cases e
    subst eH
    exact ⟨rfl, k c L σ (.refl r o) rfl s⟩
  | cons _ _ => cases e
theorem igs_cons {g : MG} {gs : List AV → AS → Option AS} (h1 : IG G B zs X a g) (h2 : IGs G B zs X es gs) (hs : (assignEach (a :: es) X.env).map (·.2) = assign a X.env :: (assignEach es X.env).map (·.2) := by rfl) : IGs G B zs X (a :: es) (gsCons g gs) :=
  PGs.imp (pgs_cons h1 h2 hs) fun us σ H Q ⟨c, τ, L, vs, τ', eH, r, o, s, x, e, k⟩ => by
  cases x with
  | nil => cases e
  | @cons v vr u ur x xr =>
    unfold gsCons at e
    simp only at e
    cases q : g v τ with
    | none => rw [q] at e; cases e
    | some τ1 =>
      rw [q] at e
      exact ⟨u, ur, rfl, c, τ, L, v, τ1, eH, r, o, s, x, q, fun c1 L1 σ1 S1 e1 s1 => ⟨c1, τ1, L1, vr, τ', rfl, S1.rel, S1.own, s1, xr.mono S1.mv, e, fun c2 L2 σ2 S2 e2 s2 => k c2 L2 σ2 (S1.trans S2) (e2.trans e1) s2⟩⟩
theorem ig_tup {n k : Nat} {gs : List AV → AS → Option AS} (hK : X.K = G.K) (hc : X.calm = true) (h : IGs G B zs X es gs) (hn : (assignEach es X.env).length = n := by rfl) (hst : (assignEach es X.env).findIdx? (·.1) = none := by rfl) : IG G B zs X (.Tuple es k pos) (gT n gs) := by
  refine PG.imp (PG.or (pg_tup hc h hn hst) (pg_lst hc h hn hst)) fun u σ H Q ⟨c, τ, L, v, τ', eH, r, o, s, x, e, k⟩ => ?_
  rw [hK]
  unfold gT at e
  have go : ∀ {xs : List AV} {us : List V}, RVs G c xs us → (if xs.length = n then gs xs τ else none) = some τ' → us.length = n ∧ tGs G B zs gs us σ H Q := fun {xs us} y e => by
    by_cases hl : xs.length = n
    · rw [if_pos hl] at e
      exact ⟨by rw [← y.length]; exact hl, c, τ, L, xs, τ', eH, r, o, s, y, e, k⟩
    · rw [if_neg hl] at e
      cases e
  subst eH
  cases x with
  | tup rd f y => exact .inl ⟨_, _, rfl, .inl rd, go y e⟩
  | tupK kk y => exact .inl ⟨_, _, rfl, .inr kk, go y e⟩
  | fl rd f y => exact .inr ⟨_, _, rfl, .inl rd, go y e⟩
  | flK kk y => exact .inr ⟨_, _, rfl, .inr kk, go y e⟩
  | _ => cases e
theorem is_asg {g : MG} {tg : Expr} (he : IE G B W X e m) (hg : IG G B zs X tg g) (hs : swapsWithSole [tg] e pos.line X.env = pure false := by rfl) (hw : swappedStores [tg] e X.env = pure none := by rfl)
    (h1 : (assignEach [tg] X.env).map (·.2) = [assign tg X.env] := by rfl) : IS G B zs W X (.Assign [tg] e pos) (sAsg g m) := PS.imp (ps_asg he hg hs hw h1) fun D σ H ⟨c, τ, L, eH, r, o, s, p⟩ => by
  refine ⟨c, τ, L, eH, r, s, (PostS.bindS (R := RV G) o s p).imp fun u H1 ⟨c1, v, e1, N1, x1, p1⟩ => ?_⟩
  subst e1
  cases q : g v τ with
  | none => rw [q] at p1; exact p1.elim
  | some τ1 =>
    rw [q] at p1
    exact ⟨c1, τ, L, v, τ1, rfl, N1.rel, o.nxt N1, s.nxt N1, x1, q, fun c' L' σ' S eh s' => p1 c' L' σ' S eh s'⟩
/-! for -/
/-- J goes through vs -/
structure Goes (G : Gx) (c : Cfg) (J : It) (vs : List AV) : Prop where
  ex : ∃ Gd Y, Walk J vs.length Gd Y ∧ (∀ c', Mv c c' → Gd c'.H) ∧ ∀ c' i x H'' v, Mv c c' → Rel G c' → vs[i]? = some v → Y i c'.H x H'' → Nxt G c' { c' with H := H'' } ∧ RV G { c' with H := H'' } v x
def tIi (G : Gx) (B : Bx) (W : WX) (m : MA) : TI := fun σ H R => ∃ c τ L, c.H = H ∧ Rel G c ∧ RS G B c L τ σ ∧ Post G (fun c' (vs : List AV) (J : It) => Goes G c' J vs) c (fun k d H' => W k d σ H') R (m τ c.h)
def II (G : Gx) (B : Bx) (W : WX) (X : Cx) (tg iter : Expr) (m : MA) : Prop := PI X tg iter (tIi G B W m)
theorem PI.imp {tg iter : Expr} {t t' : TI} (h : PI X tg iter t) (f : ∀ σ H R, t' σ H R → t σ H R) : PI X tg iter t' := ⟨fun pins s σ H R I q => h.run pins s σ H R I (f _ _ _ q)⟩
theorem is_for {g : MG} {tg iter : Expr} {body : List Stmt} (hp : PassesOwn (model X.prog X.w) X.A X.env X.xe) (hc : X.calm = true) (hi : II G B W X tg iter ma) (hg : IG G B zs X tg g) (hb : ISs G B zs W X body ms)
    (hs : ∀ x, foldedSetIterable iter X.env x = pure x := by intro _; rfl) : IS G B zs W X (.For tg iter body [] pos) (sFor g ma ms) := PS.imp (ps_for hp hc hi hg hb hs) fun D σ H ⟨c, τ, L, eH, r, o, s, p⟩ => by
  refine ⟨c, τ, L, eH, r, s, (PostS.bindS (R := fun c' (vs : List AV) (J : It) => Goes G c' J vs) o s p).imp fun J H1 ⟨c1, vs, e1, N1, ⟨Gd, Y, w, hG, hY⟩, p1⟩ => ?_⟩
  subst e1
  refine for_it w (fun i σ H => ∃ c2 τ L2, c2.H = H ∧ Stp G zs L c1 L2 c2 ∧ RS G B c2 L2 τ σ ∧ PostS G B zs L2 c2 W D (forL g ms (vs.drop i) τ c2.h)) ⟨c1, τ, L, rfl, .refl N1.rel (o.nxt N1), s.nxt N1, p1⟩ ?_ ?_ ?_
  · rintro i σ H _ ⟨c2, τ, L2, rfl, S, _⟩
    exact hG c2 S.mv
  · rintro i x σ H H' hi ⟨c2, τ, L2, rfl, S, s2, p2⟩ y
    obtain ⟨N3, x3⟩ := hY c2 i x H' vs[i] S.mv S.rel (by simp [hi]) y
    rw [List.drop_eq_getElem_cons hi] at p2
    unfold forL at p2
    cases q : g vs[i] τ with
    | none => rw [q] at p2; exact p2.elim
    | some τ1 =>
      rw [q] at p2
      have T := Stp.of N3 S.own
      refine ⟨{ c2 with H := H' }, τ, L2, vs[i], τ1, rfl, N3.rel, T.own, s2.nxt N3, x3, q, fun c3 L3 σ3 S3 e3 s3 => ⟨c3, τ1, L3, rfl, S3.rel, S3.own, s3, ?_⟩⟩
      have p3 := PostS.trans (T.trans S3) p2
      have e3' : c3.h = c2.h := e3
      have nxt : ∀ {c4 : Cfg} {L4 : List Addr} {σ4 : SL} {τ4 : AS}, Stp G zs L3 c3 L4 c4 → RS G B c4 L4 τ4 σ4 → PostS G B zs L3 c3 W D (forL g ms (vs.drop (i + 1)) τ4 c4.h) →
          ∃ c2 τ L2, c2.H = c4.H ∧ Stp G zs L c1 L2 c2 ∧ RS G B c2 L2 τ σ4 ∧ PostS G B zs L2 c2 W D (forL g ms (vs.drop (i + 1)) τ c2.h) := fun {c4 L4 σ4 τ4} S4 s4 p4 =>
        ⟨c4, τ4, L4, rfl, ((S.trans T).trans S3).trans S4, s4, PostS.trans S4 p4⟩
      revert p3
      rw [e3']
      show PostS G B zs L3 c3 W D (match ms τ1 c2.h with | .nx τ2 h2 => forL g ms (vs.drop (i + 1)) τ2 h2 | .ct τ2 h2 => forL g ms (vs.drop (i + 1)) τ2 h2 | .bk τ2 h2 => .nx τ2 h2 | q => q) → PostS G B zs L3 c3 W _ (ms τ1 c2.h)
      cases ms τ1 c2.h with
      | nx τ4 h4 => exact fun p3 c4 L4 σ4 S4 e4 s4 => nxt S4 s4 (by rw [e4]; exact p3)
      | ct τ4 h4 => exact fun p3 c4 L4 σ4 S4 e4 s4 => nxt S4 s4 (by rw [e4]; exact p3)
      | bk τ4 h4 => exact fun p3 => p3
      | rt v h4 => exact fun p3 => p3
      | exc x fs τ4 h4 => exact fun p3 => p3
      | stuck => exact fun p3 => p3
  · rintro σ H ⟨c2, τ, L2, rfl, S, s2, p2⟩
    rw [List.drop_length] at p2
    exact p2 c2 L2 σ (.refl S.rel S.own) rfl s2
theorem is_while {body : List Stmt} (k : Nat) (hp : PassesOwn (model X.prog X.w) X.A X.env X.xe) (hc : IT G B W X e mt) (hb : ISs G B zs W X body ms) : IS G B zs W X (.While e body [] pos) (sWhile k mt ms) := PS.imp (ps_while hp hc hb) fun D σ H ⟨c, τ, L, eH, r, o, s, p⟩ => by
  refine ⟨fun i σ H => ∃ c τ L, c.H = H ∧ Rel G c ∧ Own zs L c ∧ RS G B c L τ σ ∧ PostS G B zs L c W D (whileL mt ms i τ c.h), ⟨k, c, τ, L, eH, r, o, s, p⟩, ?_⟩
  rintro i σ H ⟨c, τ, L, rfl, r, o, s, p⟩
  cases i with
  | zero => exact p.elim
  | succ i =>
    refine ⟨c, τ, L, rfl, r, s, (PostS.bindS (R := fun _ (a b : Bool) => a = b) o s p).imp fun u H1 ⟨c1, v, e1, N1, x1, p1⟩ => ?_⟩
    subst e1
    subst x1
    cases v with
    | false => exact p1 c1 L σ (.refl N1.rel (o.nxt N1)) rfl (s.nxt N1)
    | true =>
      refine ⟨fun σ H => ∃ c τ L, c.H = H ∧ Rel G c ∧ Own zs L c ∧ RS G B c L τ σ ∧ PostS G B zs L c W D (whileL mt ms i τ c.h), fun σ' H' q => ⟨i, Nat.lt_succ_self i, q⟩, c1, τ, L, rfl, N1.rel, o.nxt N1, s.nxt N1, ?_⟩
      have p1' : PostS G B zs L c1 W D (match ms τ c1.h with | .nx τ2 h2 => whileL mt ms i τ2 h2 | .ct τ2 h2 => whileL mt ms i τ2 h2 | .bk τ2 h2 => .nx τ2 h2 | q => q) := p1
      revert p1'
      cases ms τ c1.h with
      | nx τ4 h4 => exact fun p3 c4 L4 σ4 S4 e4 s4 => ⟨c4, τ4, L4, rfl, S4.rel, S4.own, s4, by rw [e4]; exact PostS.trans S4 p3⟩
      | ct τ4 h4 => exact fun p3 c4 L4 σ4 S4 e4 s4 => ⟨c4, τ4, L4, rfl, S4.rel, S4.own, s4, by rw [e4]; exact PostS.trans S4 p3⟩
      | bk τ4 h4 => exact fun p3 => p3
      | rt v h4 => exact fun p3 => p3
      | exc x fs τ4 h4 => exact fun p3 => p3
      | stuck => exact fun p3 => p3
end
end PI
/-! PIf: defs, methods, instances, errors. -/
namespace PI
open PySem PySem.Spec PyProof.Rows L2
abbrev FN := List AV → AH → Res AV
/-- a def by its body: N slots -/
def runF (N : Nat) (b : MS) : FN := fun vs h => match b (vs.map some ++ List.replicate (N - vs.length) none) h with
  | .nx _ h' => .ok .non h'
  | .rt v h' => .ok v h'
  | .exc x fs _ h' => .exc x fs h'
  | _ => .stuck
def spF (G : Gx) (n : Nat) (m : FN) : Sp := fun us H Q E => ∃ c vs, c.H = H ∧ Rel G c ∧ RVs G c vs us ∧ vs.length = n ∧ Post G (RV G) c E Q (m vs c.h)
section
variable {G : Gx} {B : Bx} {zs : Addr → Prop} {L L' : List Addr} {c c' : Cfg} {α β : Type} {R : RR α β}
theorem RS.start {vs : List AV} {us : List V} (x : RVs G c vs us) (k : Nat) : RS G B c [] (vs.map some ++ List.replicate k none) (us.map some ++ List.replicate k none) := by
  induction us generalizing vs with
  | nil =>
    cases x
    simp only [List.map_nil, List.nil_append]
    induction k with
    | zero => exact .nil
    | succ k ih => exact RS.cons (l := []) .skip ih
  | cons u us ih =>
    cases x with
    | cons x xr => exact RS.cons (l := []) (.val x) (ih xr)
/-- a def's end: what its slots held goes -/
theorem Stp.leave (S : Stp G c.Z L c L' c') : Nxt G c { c' with Z := c.Z } ∧ Mv c' { c' with Z := c.Z } :=
  ⟨⟨S.rel.fewer S.own.low, S.mv.trans (Mv.fewer S.own.low), rfl, fun a z => S.zz a z⟩, Mv.fewer S.own.low⟩
theorem post_of {E : XK} {Q : VK} {N : Nat} {b : MS} {vs : List AV} {h : AH} (p : Post G (RV G) c E Q (runF N b vs h)) :
    PostS G B c.Z [] c (fun k d _ H' => E k d H') { nx := fun _ H' => Q .non H', rt := Q } (b (vs.map some ++ List.replicate (N - vs.length) none) h) := by
  unfold runF at p
  revert p
  cases b (vs.map some ++ List.replicate (N - vs.length) none) h with
  | nx τ h1 => exact fun p c' L' σ S e _ => p { c' with Z := c.Z } .non S.leave.1 e .non
  | rt v h1 => exact fun p c' L' u S e x => p { c' with Z := c.Z } u S.leave.1 e (x.mono S.leave.2)
  | exc x fs τ h1 => exact fun p c' L' σ k d S e x _ => p { c' with Z := c.Z } k d S.leave.1 e (x.mono S.leave.2)
  | bk τ h1 => exact fun p => p.elim
  | ct τ h1 => exact fun p => p.elim
  | stuck => exact fun p => p.elim
end
section
variable {P : Program} {w : World} {K : PySem.W.Frag} {mg : Str → Option Value} {base : Heap}
/-- a def keeps what its body's reading says -/
theorem ok_fn {G : Gx} {B : Bx} {x qual : Str} {st : Stmt} {f : Addr} {fd : FuncData} {N ps : List Str} {k : Nat} {b : MS} (F : Fun K x qual st f fd) (S : FnScope N ps (defScope st))
    (hb : ∀ (cdv : Value) (A : Around) (outer : List Env) (s : Shared) (H : Hp) (E : XK) (zs : Addr → Prop), Room k (A.deeper (envOfC qual (defScope st) s.heap.objs.size f cdv)) →
      Takes (cxOf (L2.CX P w) P w K mg base N qual (defScope st) f cdv A outer s H E) (fun k d _ H' => E k d H') →
      ISs G B zs (fun k d _ H' => E k d H') (cxOf (L2.CX P w) P w K mg base N qual (defScope st) f cdv A outer s H E) (defBody st) b) :
    FnOk P w K mg base (L2.CX P w) (k + 1) f fd ps (spF G ps.length (runF N.length b)) := by
  refine F.okX S (fun vs H Q E h => ?_) (fun cdv A outer s H vs Q E hr h => ?_)
  · obtain ⟨c, ws, _, _, x, e, _⟩ := h
    rw [← x.length, e]
  · obtain ⟨c, ws, eH, r, x, e, p⟩ := h
    refine ⟨_, hb cdv A outer s H E c.Z hr (takes_of rfl rfl rfl rfl), ?_⟩
    refine ⟨c, _, [], eH, r, ⟨fun _ z => z, fun a h => absurd h (by simp), List.nodup_nil⟩, ?_, post_of p⟩
    unfold L2.start
    rw [x.length]
    exact RS.start x _
theorem FnOk.eqv {G : Gx} {f : Addr} {fd : FuncData} {ps : List Str} {k n : Nat} {m m' : FN} (F : FnOk P w K mg base (L2.CX P w) k f fd ps (spF G n m)) (e : ∀ vs h, vs.length = n → m vs h = m' vs h) :
    FnOk P w K mg base (L2.CX P w) k f fd ps (spF G n m') := F.imp fun vs H Q E ⟨c, ws, eH, r, x, l, p⟩ => ⟨c, ws, eH, r, x, l, by rw [e ws c.h l]; exact p⟩
end
/-! ### calls -/
def mCall (f : FN) (ma : MA) : ME := fun τ h => (ma τ h).bind fun vs h => f vs h
def mMeth (ks : List Nat) (f : FN) (m : ME) (ma : MA) : ME := fun τ h => (m τ h).bind fun v h => match v with
  | .obj k _ => if ks.contains k then (ma τ h).bind fun vs h => f (.obj k [] :: vs) h else .stuck
  | _ => .stuck
/-- the class of an instance, as the plain heap stands -/
def clsOf (v : AV) (h : AH) : Option Nat := match v with
  | .obj k _ => some k
  | .ref n => match h[n]? with
    | some (some (.ins k _)) => some k
    | _ => none
  | _ => none
def fldsOf (v : AV) (h : AH) : Option (Nat × List (Nat × AV)) := match v with
  | .obj k fs => some (k, fs)
  | .ref n => match h[n]? with
    | some (some (.ins k fs)) => some (k, fs)
    | _ => none
  | _ => none
/-- o.m(..), o of the class k; m is no field -/
def mMet (k m : Nat) (f : FN) (o : ME) (ma : MA) : ME := fun τ h => (o τ h).bind fun v h => match fldsOf v h with
  | some (k', fs) => if k' = k ∧ (fs.lookup m).isNone then (ma τ h).bind fun vs h => f (v :: vs) h else .stuck
  | none => .stuck
section
variable {G : Gx} {B : Bx} {W : WX} {X : Cx} {c c' : Cfg} {H H' : Hp} {a b e o : Expr} {es : List Expr} {m n : ME} {ma : MA} {pos p apos : Pos} {k : Nat} {f C : Addr} {fd : FuncData} {ps : List Str} {fn : FN} {N : Nat} {ds : List Value} {dvs : List V} {dws : List AV} {x : Str}
theorem RVs.append {xs ys : List AV} {us ws : List V} : ∀ (r : RVs G c xs us) (q : RVs G c ys ws), RVs G c (xs ++ ys) (us ++ ws)
  | .nil, q => q
  | .cons r t, q => .cons r (t.append q)
/-- a def's defaults, known to the module -/
def GVs (G : Gx) (vs : List AV) (us : List V) : Prop := ∀ c, RVs G c vs us
theorem gvs_nil : GVs G [] [] := fun _ => .nil
theorem gvs_cons {v : AV} {u : V} {vs : List AV} {us : List V} (h : GV G v u) (t : GVs G vs us) : GVs G (v :: vs) (u :: us) := fun c => .cons (h c) (t c)
theorem fnlen {P : Program} {w : World} {K : PySem.W.Frag} {mg : Str → Option Value} {base : Heap} (F : FnOk P w K mg base (L2.CX P w) k f fd ps (spF G N fn)) (c : Cfg) (us : List V) (h : spF G N fn us c.H (fun _ _ => True) (fun _ _ _ => True)) : us.length = ps.length := F.len _ _ _ _ h
/-- the callee's promise from a result -/
theorem sp_of {vs : List AV} {us : List V} {E : XK} {Q : VK} (r : Rel G c) (x : RVs G c vs us) (l : vs.length = N) (p : Post G (RV G) c E Q (fn vs c.h)) : spF G N fn us c.H Q E := ⟨c, vs, rfl, r, x, l, p⟩
def chk (N : Nat) (f : FN) : FN := fun vs h => if vs.length = N then f vs h else .stuck
theorem ie_call (F : FnOk X.prog X.w X.K X.mg X.base (L2.CX X.prog X.w) k f fd ps (spF G N fn)) (hr : Room k X.A) (tk : Takes X W) (hm : X.mg x = some (.ref f)) (hk : PySem.W.keepIn X.K (.ref f) = true) (hb : Binds X.K fd ps ds) (hd : Vals dvs ds) (gd : GVs G dws dvs)
    (ha : IA G B W X (e :: es) ma) (hg : Gl X x := by rfl) (hdb : (x == ("__debug__" : Str)) = false := by decide) (he : starEach (e :: es) X.env = (false, eval e X.env) :: starEach es X.env := by rfl) (hpl : (backTo pos (starEach es X.env)).any (·.1) = false := by rfl) :
    IE G B W X (.Call (.Name x p) (e :: es) [] pos) (mCall (fun vs h => chk N fn (vs ++ dws) h) ma) :=
  PE.imp (pe_callSD (E := fun σ k d H => W k d σ H) F hr hg hm hk hb hd (fun σ => passAt tk σ) ha hdb he hpl) fun σ H Q ⟨c, τ, L, eH, rl, s, q⟩ => by
  refine ⟨c, τ, L, eH, rl, s, (Post.bind (R := RVs G) q).imp fun us H1 ⟨c1, vs, e1, N1, x1, p1⟩ => ?_⟩
  subst e1
  have p1 : Post G (RV G) c1 (fun k d H' => W k d σ H') Q (chk N fn (vs ++ dws) c1.h) := p1
  unfold chk at p1
  by_cases hl : (vs ++ dws).length = N
  · rw [if_pos hl] at p1
    exact sp_of N1.rel (x1.append (gd c1)) hl p1
  · rw [if_neg hl] at p1
    exact p1.elim
theorem ie_call0 (F : FnOk X.prog X.w X.K X.mg X.base (L2.CX X.prog X.w) k f fd ps (spF G N fn)) (hr : Room k X.A) (tk : Takes X W) (hm : X.mg x = some (.ref f)) (hk : PySem.W.keepIn X.K (.ref f) = true) (hb : Binds X.K fd ps ds) (hd : Vals dvs ds) (gd : GVs G dws dvs)
    (hg : Gl X x := by rfl) (hdb : (x == ("__debug__" : Str)) = false := by decide) :
    IE G B W X (.Call (.Name x p) [] [] pos) (mCall (fun vs h => chk N fn (vs ++ dws) h) mNil) := by
  refine ⟨fun pins s σ H Q I ⟨c, τ, L, eH, rl, s', q⟩ => ?_⟩
  refine wpAny_Call_Name_kw (ld_glob I hg hm ?_ hdb)
  have p1 : Post G (RV G) c (fun k d H' => W k d σ H') Q (chk N fn dws c.h) := q
  unfold chk at p1
  by_cases hl : dws.length = N
  · rw [if_pos hl] at p1
    subst eH
    exact PySem.W.callWith_K0 I.kIn hk (run_fnSD (us := []) (vs := []) (E := fun σ k d H => W k d σ H) F hr hb hd (passAt tk σ) I .nil (sp_of rl (gd c) hl p1))
  · rw [if_neg hl] at p1
    exact p1.elim
/-! fields -/
theorem RVf.get {fs : List (Nat × AV)} {uf : List (Str × V)} {i : Nat} : ∀ (r : RVf G c fs uf) {v : AV}, fs.lookup i = some v → ∃ u, uf.lookup (G.nm i) = some u ∧ RV G c v u
  | .nil, v, e => by simp at e
  | @RVf.cons _ _ f x xs u us r t, v, e => by
    rw [List.lookup_cons] at e ⊢
    by_cases h : i = f
    · subst h
      simp at e ⊢
      subst e
      exact r
    · have h1 : (i == f) = false := by simpa using h
      have h2 : (G.nm i == G.nm f) = false := beq_eq_false_iff_ne.mpr fun q => h (G.inj _ _ q)
      rw [h1] at e
      rw [h2]
      exact t.get e
theorem RVf.none {fs : List (Nat × AV)} {uf : List (Str × V)} {i : Nat} : ∀ (r : RVf G c fs uf), fs.lookup i = none → uf.lookup (G.nm i) = none
  | .nil, _ => rfl
  | @RVf.cons _ _ f x xs u us r t, e => by
    rw [List.lookup_cons] at e ⊢
    by_cases h : i = f
    · subst h
      simp at e
    · have h1 : (i == f) = false := by simpa using h
      have h2 : (G.nm i == G.nm f) = false := beq_eq_false_iff_ne.mpr fun q => h (G.inj _ _ q)
      rw [h1] at e
      rw [h2]
      exact t.none e
def aput (i : Nat) (v : AV) : List (Nat × AV) → List (Nat × AV)
  | [] => [(i, v)]
  | (j, x) :: r => if j = i then (j, v) :: r else (j, x) :: aput i v r
theorem RVf.put {fs : List (Nat × AV)} {uf : List (Str × V)} {i : Nat} {v : AV} {u : V} (y : RV G c v u) : ∀ (r : RVf G c fs uf), RVf G c (aput i v fs) (putF (G.nm i) u uf)
  | .nil => .cons y .nil
  | @RVf.cons _ _ f x xs u2 us r t => by
    unfold aput putF
    by_cases h : f = i
    · subst h
      rw [if_pos rfl, if_pos rfl]
      exact .cons y t
    · rw [if_neg h, if_neg fun q => h (G.inj _ _ q)]
      exact .cons r (t.put y)
/-- an instance as it lies -/
theorem inst_at {v : AV} {u : V} {k : Nat} {fs : List (Nat × AV)} (r : Rel G c) (x : RV G c v u) (e : fldsOf v c.h = some (k, fs)) : ∃ p dx uf, u = .ref p ∧ c.H p = some (.ins (G.ca k) dx uf) ∧ RVf G c fs uf := by
  cases x with
  | obj e1 f1 x1 =>
    unfold fldsOf at e
    cases e
    exact ⟨_, _, _, rfl, e1, x1⟩
  | @ref n hn =>
    unfold fldsOf at e
    simp only at e
    split at e
    · rename_i k' fs' q
      cases e
      obtain ⟨dx, uf, q1, q2⟩ := r.obj n _ q
      exact ⟨_, dx, uf, rfl, q1, q2⟩
    · cases e
  | _ => cases e
/-- o.f -/
def mFld (ks : List Nat) (f : Nat) (m : ME) : ME := fun τ h => (m τ h).bind fun v h => match fldsOf v h with
  | some (k, fs) => if ks.contains k then (match fs.lookup f with | some w => .ok w h | none => .stuck) else .stuck
  | none => .stuck
structure FldOk (G : Gx) (K : PySem.W.Frag) (f : Nat) (k : Nat) : Prop where
  cl : Cls K (G.ca k)
  no : NoAttr K (G.ca k) (G.nm f)
theorem ie_fld {ks : List Nat} {f : Nat} {fx : Str} (he : IE G B W X e m) (hf : fx = G.nm f) (hks : ∀ k, k ∈ ks → FldOk G X.K f k) (hb : attributeBase e fx X.env (eval e X.env) = eval e X.env := by rfl) : IE G B W X (.Attribute e fx pos) (mFld ks f m) := by
  subst hf
  refine PE.imp (pe_fld he hb) fun σ H Q ⟨c, τ, L, eH, rl, s, q⟩ => ?_
  refine ⟨c, τ, L, eH, rl, s, (Post.bind (R := RV G) q).imp fun u H1 ⟨c1, v, e1, N1, x1, p1⟩ => ?_⟩
  subst e1
  cases q1 : fldsOf v c1.h with
  | none => rw [q1] at p1; exact p1.elim
  | some kf =>
    obtain ⟨k, fs⟩ := kf
    rw [q1] at p1
    simp only at p1
    by_cases hk : ks.contains k = true
    · rw [if_pos hk] at p1
      have hk' : k ∈ ks := by simpa using hk
      obtain ⟨pp, dx, uf, rfl, ep, xf⟩ := inst_at N1.rel x1 q1
      cases q2 : fs.lookup f with
      | none => rw [q2] at p1; exact p1.elim
      | some w =>
        rw [q2] at p1
        obtain ⟨u2, e2, x2⟩ := xf.get q2
        exact ⟨pp, _, dx, uf, u2, rfl, ep, (hks k hk').cl, (hks k hk').no, e2, fin N1.rel x2 p1⟩
    · rw [if_neg hk] at p1
      exact p1.elim
/-! methods -/
theorem ie_meth {kc mi : Nat} {mx : Str} {pl : Sem Bool} (he : IE G B W X o m) (hmx : mx = G.nm mi) (cl : Cls X.K (G.ca kc)) (hm : Meth X.K (G.ca kc) mx f) (F : FnOk X.prog X.w X.K X.mg X.base (L2.CX X.prog X.w) k f fd ps (spF G N fn)) (hr : Room k X.A) (tk : Takes X W) (hb : Binds X.K fd ps ds) (hd : Vals dvs ds) (gd : GVs G dws dvs)
    (ha : IA G B W X (e :: es) ma)
    (hst : starEach (e :: es) X.env = (false, eval e X.env) :: starEach es X.env := by rfl) (hpl : (backTo pos (starEach es X.env)).any (·.1) = false := by rfl)
    (ht : eval (.Call (.Attribute o mx apos) (e :: es) [] pos) X.env = (do
      let ov ← eval o X.env
      standAt apos.atName
      let (f, first) ← holding [ov] (getMethod ov mx pl)
      callWith pos f first (backTo pos (starEach (e :: es) X.env)) (backToKw pos (keywordEach [] X.env))) := by rfl) :
    IE G B W X (.Call (.Attribute o mx apos) (e :: es) [] pos) (mMet kc mi (fun vs h => chk N fn (vs ++ dws) h) m ma) := by
  subst hmx
  refine ⟨fun pins s σ H Q I ⟨c, τ, L, eH, rl, s', q⟩ => ?_⟩
  refine PySem.W.methodCall_KW (pl := pl) (thn (he.run pins s σ H _ I ⟨c, τ, L, eH, rl, s', Post.bind (R := RV G) q⟩) fun u s1 ⟨y, H1, I1, ry, c1, v, e1, N1, x1, p1⟩ => ?_) ht
  subst e1
  cases q1 : fldsOf v c1.h with
  | none => rw [q1] at p1; exact p1.elim
  | some kf =>
    obtain ⟨k', fs⟩ := kf
    rw [q1] at p1
    simp only at p1
    by_cases hk : k' = kc ∧ (fs.lookup mi).isNone = true
    · rw [if_pos hk] at p1
      obtain ⟨hk1, hk2⟩ := hk
      subst hk1
      obtain ⟨pp, dx, uf, rfl, ep, xf⟩ := inst_at N1.rel x1 q1
      obtain rfl : u = Value.ref pp := ry
      refine getmeth_ok I1 ep cl hm (xf.none (by simpa using hk2)) ?_
      refine PySem.W.callWith_K (first := [.ref pp]) (h₀ := X.base) I.ok.mod.kin hm.kp (thn (ha.run pos pins s1 σ c1.H _ I1 ⟨c1, τ, L, rfl, N1.rel, s'.nxt N1, Post.bind (R := RVs G) p1⟩) fun us s2 ⟨ws, H2, I2, r2, c2, vs, e2, N2, x2, p2⟩ => ⟨I2.kIn, ?_⟩) hst hpl
      subst e2
      unfold chk at p2
      by_cases hl : (v :: vs ++ dws).length = N
      · rw [if_pos hl] at p2
        exact run_fnSD (us := .ref pp :: us) (vs := .ref pp :: ws) (E := fun σ k d H => W k d σ H) F hr hb hd (passAt tk σ) I2 (.cons rfl r2) (sp_of N2.rel (RVs.append (RVs.cons (x1.mono N2.mv) x2) (gd c2)) hl p2)
      · rw [if_neg hl] at p2
        exact p2.elim
    · rw [if_neg hk] at p1
      exact p1.elim
theorem ie_meth0 {kc mi : Nat} {mx : Str} {pl : Sem Bool} (he : IE G B W X o m) (hmx : mx = G.nm mi) (cl : Cls X.K (G.ca kc)) (hm : Meth X.K (G.ca kc) mx f) (F : FnOk X.prog X.w X.K X.mg X.base (L2.CX X.prog X.w) k f fd ps (spF G N fn)) (hr : Room k X.A) (tk : Takes X W) (hb : Binds X.K fd ps ds) (hd : Vals dvs ds) (gd : GVs G dws dvs)
    (ht : eval (.Call (.Attribute o mx apos) [] [] pos) X.env = (do
      let ov ← eval o X.env
      standAt apos.atName
      let (f, first) ← holding [ov] (getMethod ov mx pl)
      callWith pos f first (backTo pos (starEach [] X.env)) (backToKw pos (keywordEach [] X.env))) := by rfl) :
    IE G B W X (.Call (.Attribute o mx apos) [] [] pos) (mMet kc mi (fun vs h => chk N fn (vs ++ dws) h) m mNil) := by
  subst hmx
  refine ⟨fun pins s σ H Q I ⟨c, τ, L, eH, rl, s', q⟩ => ?_⟩
  refine PySem.W.methodCall_KW (pl := pl) (thn (he.run pins s σ H _ I ⟨c, τ, L, eH, rl, s', Post.bind (R := RV G) q⟩) fun u s1 ⟨y, H1, I1, ry, c1, v, e1, N1, x1, p1⟩ => ?_) ht
  subst e1
  cases q1 : fldsOf v c1.h with
  | none => rw [q1] at p1; exact p1.elim
  | some kf =>
    obtain ⟨k', fs⟩ := kf
    rw [q1] at p1
    simp only at p1
    by_cases hk : k' = kc ∧ (fs.lookup mi).isNone = true
    · rw [if_pos hk] at p1
      obtain ⟨hk1, hk2⟩ := hk
      subst hk1
      obtain ⟨pp, dx, uf, rfl, ep, xf⟩ := inst_at N1.rel x1 q1
      obtain rfl : u = Value.ref pp := ry
      refine getmeth_ok I1 ep cl hm (xf.none (by simpa using hk2)) ?_
      have p2 : Post G (RV G) c1 (fun k d H' => W k d σ H') Q (chk N fn (v :: dws) c1.h) := p1
      unfold chk at p2
      by_cases hl : (v :: dws).length = N
      · rw [if_pos hl] at p2
        exact PySem.W.callWith_K0 (first := [.ref pp]) I1.kIn hm.kp (run_fnSD (us := [.ref pp]) (vs := [.ref pp]) (E := fun σ k d H => W k d σ H) F hr hb hd (passAt tk σ) I1 (.cons rfl .nil) (sp_of N1.rel (RVs.cons x1 (gd c1)) hl p2))
      · rw [if_neg hl] at p2
        exact p2.elim
    · rw [if_neg hk] at p1
      exact p1.elim
end
end PI
/-! PIg: instances made, fields stored, lists that a slot alone holds. -/
namespace PI
open PySem PySem.Spec PyProof.Rows L2
abbrev FI := List AV → AH → Res (List (Nat × AV))
/-- __init__ by its body, of an instance that nobody changes afterwards -/
def runI (N k : Nat) (b : MS) : FI := fun vs h => match b (some (.mI k []) :: vs.map some ++ List.replicate (N - (vs.length + 1)) none) h with
  | .nx τ h' => match τ with
    | some (.mI k' fs) :: _ => if k' = k then .ok fs h' else .stuck
    | _ => .stuck
  | .exc x fs _ h' => .exc x fs h'
  | _ => .stuck
structure StpI (G : Gx) (x : Addr) (c c' : Cfg) : Prop where
  rel : Rel G c'
  mv : Mv c c'
  z : c'.Z = fun a => c.Z a ∧ a ≠ x
  zz : ∀ a, c.Z a → a ≠ x → c'.H a = c.H a
def PostI (G : Gx) (k : Nat) (x : Addr) (c : Cfg) (E : XK) (Q : VK) : Res (List (Nat × AV)) → Prop
  | .ok fs h' => ∀ c' dx uf, StpI G x c c' → c'.h = h' → NA c' x → c'.H x = some (.ins (G.ca k) dx uf) → RVf G c' fs uf → Q .non c'.H
  | .exc y fs h' => ∀ c' cls d, StpI G x c c' → c'.h = h' → RX G c' y fs cls d → E cls d c'.H
  | .stuck => False
def spI (G : Gx) (k n : Nat) (m : FI) : Sp := fun us H Q E => ∃ c vs x us' dx, us = .ref x :: us' ∧ c.H = H ∧ Rel G c ∧ c.Z x ∧ H x = some (.ins (G.ca k) dx []) ∧ RVs G c vs us' ∧ vs.length + 1 = n ∧ PostI G k x c E Q (m vs c.h)
section
variable {P : Program} {w : World} {K : PySem.W.Frag} {mg : Str → Option Value} {base : Heap}
theorem ok_init {G : Gx} {x qual : Str} {st : Stmt} {f : Addr} {fd : FuncData} {N ps : List Str} {k kc : Nat} {b : MS} (F : Fun K x qual st f fd) (S : FnScope N ps (defScope st))
    (hb : ∀ (B : Bx) (cdv : Value) (A : Around) (outer : List Env) (s : Shared) (H : Hp) (E : XK) (zs : Addr → Prop), Room k (A.deeper (envOfC qual (defScope st) s.heap.objs.size f cdv)) →
      Takes (cxOf (L2.CX P w) P w K mg base N qual (defScope st) f cdv A outer s H E) (fun k d _ H' => E k d H') →
      ISs G B zs (fun k d _ H' => E k d H') (cxOf (L2.CX P w) P w K mg base N qual (defScope st) f cdv A outer s H E) (defBody st) b) :
    FnOk P w K mg base (L2.CX P w) (k + 1) f fd ps (spI G kc ps.length (runI N.length kc b)) := by
  refine F.okX S (fun vs H Q E h => ?_) (fun cdv A outer s H vs Q E hr h => ?_)
  · obtain ⟨c, ws, y, us, dx, rfl, _, _, _, _, x, e, _⟩ := h
    rw [List.length_cons, ← x.length, e]
  · obtain ⟨c, ws, y, us, dx, rfl, eH, r, z, hx, x, e, p⟩ := h
    refine ⟨_, hb ⟨0, .none, none, y⟩ cdv A outer s H E (fun a => c.Z a ∧ a ≠ y) hr (takes_of rfl rfl rfl rfl), ?_⟩
    subst eH
    refine ⟨c, some (.mI kc []) :: ws.map some ++ List.replicate (N.length - (ws.length + 1)) none, [y], rfl, r, ⟨fun _ z => z.1, fun a h z => z.2 (List.mem_singleton.mp h), by simp⟩, ?_, ?_⟩
    · unfold L2.start
      have q := RS.cons (B := ⟨0, .none, none, y⟩) (SR.mI (G := G) (B := ⟨0, .none, none, y⟩) (k := kc) z hx .nil) (RS.start (B := ⟨0, .none, none, y⟩) x (N.length - (ws.length + 1)))
      have hl : us.length = ws.length := x.length.symm
      simp only [List.map_cons, List.length_cons, List.cons_append, hl]
      exact q
    · unfold runI at p
      revert p
      have low : ∀ {L' : List Addr} {c' : Cfg}, Stp G (fun a => c.Z a ∧ a ≠ y) [y] c L' c' → StpI G y c { c' with Z := fun a => c.Z a ∧ a ≠ y } ∧ Mv c' { c' with Z := fun a => c.Z a ∧ a ≠ y } := fun {L' c'} S =>
        ⟨⟨S.rel.fewer S.own.low, S.mv.trans (Mv.fewer S.own.low), rfl, fun a h1 h2 => S.zz a ⟨h1, h2⟩⟩, Mv.fewer S.own.low⟩
      cases b (some (.mI kc []) :: ws.map some ++ List.replicate (N.length - (ws.length + 1)) none) c.h with
      | nx τ h1 =>
        intro p c' L' σ S e s
        cases s with
        | nil => exact p.elim
        | cons sr s =>
          cases sr with
          | @mI k' fs dx' us' z1 e1 xf =>
            simp only at p
            by_cases hk : k' = kc
            · rw [if_pos hk] at p
              subst hk
              exact p { c' with Z := fun a => c.Z a ∧ a ≠ y } dx' us' (low S).1 e (S.rel.zok _ z1).1 e1 (xf.mono (low S).2)
            · rw [if_neg hk] at p
              exact p.elim
          | skip => exact p.elim
          | @val v u _ => cases v <;> first | exact p.elim | (rename_i q; cases q)
          | mL _ _ _ => exact p.elim
          | mD _ _ _ => exact p.elim
          | mE _ => exact p.elim
      | rt v h1 => exact fun p => p.elim
      | exc x fs τ h1 => exact fun p c' L' σ k d S e x _ => p { c' with Z := fun a => c.Z a ∧ a ≠ y } k d (low S).1 e (x.mono (low S).2)
      | bk τ h1 => exact fun p => p.elim
      | ct τ h1 => exact fun p => p.elim
      | stuck => exact fun p => p.elim
end
def chkI (N : Nat) (f : FI) : FI := fun vs h => if vs.length + 1 = N then f vs h else .stuck
def mMk (k : Nat) (f : FI) (ma : MA) : ME := fun τ h => (ma τ h).bind fun vs h => (f vs h).bind fun fs h => .ok (.obj k fs) h
def mMkR (k : Nat) (f : FN) (ma : MA) : ME := fun τ h => (ma τ h).bind fun vs h => match f (.ref h.length :: vs) (h ++ [some (.ins k [])]) with
  | .ok .non h' => .ok (.ref h.length) h'
  | .exc x fs h' => .exc x fs h'
  | _ => .stuck
section
variable {G : Gx} {B : Bx} {W : WX} {X : Cx} {c c' : Cfg} {H H' : Hp} {a b e o : Expr} {es : List Expr} {m n : ME} {ma : MA} {pos p apos : Pos} {k : Nat} {f : Addr} {fd : FuncData} {ps : List Str} {fn : FN} {fi : FI} {N kc : Nat} {ds : List Value} {dvs : List V} {dws : List AV} {x : Str}
theorem run_makeS {CX : CXT} {C : Addr} {sp : Sp} {pins : List (Addr × Obj)} {σ : SL} {H : Hp} {s : Shared} {Q : VK} {us : List Value} {vs : List V} {E : SL → XK} (M : Mk X.K C f) (F : FnOk X.prog X.w X.K X.mg X.base CX k f fd ps sp) (hr : Room (k + 1) X.A) (hb : Binds X.K fd ps ds) (hd : Vals dvs ds)
    (hx : PassesAt CX X σ (E σ)) (I : Inv X pins σ H s) (r : Vals vs us)
    (h : ∀ x dx, H x = none → H dx = none → dx ≠ x → sp (.ref x :: (vs ++ dvs)) (upd (upd H dx (.own x)) x (.ins C dx [])) (fun v H2 => v = .non ∧ Q (.ref x) H2) (E σ)) :
    wpAny (model X.prog X.w) X.A (call (.ref C) us) (EP X pins σ Q) X.xe s := by
  have hq := h (s.heap.objs.size + 1) s.heap.objs.size (I.hok.fresh (Nat.le_succ _)) (I.hok.fresh (Nat.le_refl _)) (Nat.ne_of_lt (Nat.lt_succ_self _))
  have I2 := Inv.made (C := C) I
  have r2 : Vals (V.ref (s.heap.objs.size + 1) :: (vs ++ dvs)) (Value.ref (s.heap.objs.size + 1) :: (us ++ ds)) := .cons rfl (r.append hd)
  have hl : (Value.ref (s.heap.objs.size + 1) :: us ++ ds).length = ps.length := by
    have e := r2.length
    rw [F.len _ _ _ _ hq] at e
    exact e.symm
  refine wpAny_call (make_map (f := f) I.kIn M.makes M.init (beq_iff_eq.mp M.fn) (codeAny_mono (F.run _ X.stack _ _ ⟨Value.ref (s.heap.objs.size + 1) :: us, []⟩ (Value.ref (s.heap.objs.size + 1) :: (us ++ ds)) _ _ (E σ) (hr.make C us [])
    (I2.env0.make C us []) (hb _ (Value.ref (s.heap.objs.size + 1) :: us) I2.kIn hl) r2 hq) fun r s' hq' => ?_))
  cases r with
  | error e => exact hx pins _ _ e s' I2 hq'
  | ok fl =>
    cases fl with
    | ret u =>
      obtain ⟨v, H', I3, rv, ev, q3⟩ := I2.after hq'
      subst ev
      exact ⟨rv, ⟨V.ref (s.heap.objs.size + 1), H', I3, rfl, q3⟩⟩
    | next => exact False.elim hq'
    | brk => exact False.elim hq'
    | cont => exact False.elim hq'
/-- the promise of an __init__ at a new instance, from a result -/
theorem spI_new {vs : List AV} {us : List V} {E : XK} {Q : VK} {q dx : Addr} (r : Rel G c) (xs : RVs G c vs us) (hx : c.H q = none) (hdx : c.H dx = none) (ne : dx ≠ q)
    (pp : Post G (RV G) c E Q ((chkI N fi vs c.h).bind fun fs h => .ok (.obj kc fs) h)) :
    spI G kc N fi (.ref q :: us) (upd (upd c.H dx (.own q)) q (.ins (G.ca kc) dx [])) (fun v H2 => v = .non ∧ Q (.ref q) H2) E := by
  unfold chkI at pp
  by_cases hl : vs.length + 1 = N
  · rw [if_pos hl] at pp
    have N1 := Nxt.temp (O := .own q) r hdx
    have hx1 : upd c.H dx (.own q) q = none := by rw [upd_ne (Ne.symm ne)]; exact hx
    have M2 := Mv.mine (c := { c with H := upd c.H dx (.own q) }) (O := .ins (G.ca kc) dx []) hx1
    have R2 := N1.rel.mine (O := .ins (G.ca kc) dx []) hx1
    have nz : ¬ c.Z q := r.nz hx
    refine ⟨{ c with Z := fun a => c.Z a ∨ a = q, H := upd (upd c.H dx (.own q)) q (.ins (G.ca kc) dx []) }, vs, q, us, dx, rfl, rfl, R2, .inr rfl, upd_same, (xs.mono N1.mv).mono M2, hl, ?_⟩
    have back : ∀ {c' : Cfg}, StpI G q { c with Z := fun a => c.Z a ∨ a = q, H := upd (upd c.H dx (.own q)) q (.ins (G.ca kc) dx []) } c' → Nxt G c c' := fun {c'} S => by
      refine ⟨S.rel, (N1.mv.trans M2).trans S.mv, ?_, fun a z => ?_⟩
      · rw [S.z]
        funext a
        refine propext ⟨fun h => h.1.resolve_right h.2, fun h => ⟨.inl h, fun q => nz (by rw [← q]; exact h)⟩⟩
      · have na : a ≠ q := fun y => nz (by rw [← y]; exact z)
        have nd : a ≠ dx := fun y => (r.nz hdx) (by rw [← y]; exact z)
        rw [S.zz a (.inl z) na]
        show upd (upd c.H dx (.own q)) q _ a = c.H a
        rw [upd_ne na, upd_ne nd]
    show PostI G kc q _ E _ (fi vs c.h)
    revert pp
    cases fi vs c.h with
    | ok fs h' => exact fun pp c' dx' uf S e na hq xf => ⟨rfl, pp c' (.ref q) (back S) e (.obj hq ⟨na, by rw [S.z]; exact fun y => y.2 rfl⟩ xf)⟩
    | exc y fs h' => exact fun pp c' cls d S e xx => pp c' cls d (back S) e xx
    | stuck => exact fun pp => pp.elim
  · rw [if_neg hl] at pp
    exact pp.elim
theorem ie_mk (M : Mk X.K (G.ca kc) f) (F : FnOk X.prog X.w X.K X.mg X.base (L2.CX X.prog X.w) k f fd ps (spI G kc N fi)) (hr : Room (k + 1) X.A) (tk : Takes X W) (hm : X.mg x = some (.ref (G.ca kc))) (hb : Binds X.K fd ps ds) (hd : Vals dvs ds) (gd : GVs G dws dvs)
    (ha : IA G B W X (e :: es) ma) (hg : Gl X x := by rfl) (hdb : (x == ("__debug__" : Str)) = false := by decide) (he : starEach (e :: es) X.env = (false, eval e X.env) :: starEach es X.env := by rfl) (hpl : (backTo pos (starEach es X.env)).any (·.1) = false := by rfl) :
    IE G B W X (.Call (.Name x p) (e :: es) [] pos) (mMk kc (fun vs h => chkI N fi (vs ++ dws) h) ma) := by
  refine ⟨fun pins s σ H Q I ⟨c, τ, L, eH, rl, s', q⟩ => ?_⟩
  refine wpAny_Call_Name_kw (ld_glob I hg hm ?_ hdb)
  refine PySem.W.callWith_K (h₀ := X.base) I.ok.mod.kin M.kp (thn (ha.run pos pins s σ H _ I ⟨c, τ, L, eH, rl, s', Post.bind (R := RVs G) q⟩) fun us s1 ⟨vs, H1, I1, r, c1, ws, e1, N1, x1, p1⟩ => ⟨I1.kIn, ?_⟩) he hpl
  subst e1
  exact run_makeS (E := fun σ k d H => W k d σ H) M F hr hb hd (passAt tk σ) I1 r fun y dx hy hdx ne => spI_new N1.rel (x1.append (gd c1)) hy hdx ne p1
theorem ie_mk0 (M : Mk X.K (G.ca kc) f) (F : FnOk X.prog X.w X.K X.mg X.base (L2.CX X.prog X.w) k f fd ps (spI G kc N fi)) (hr : Room (k + 1) X.A) (tk : Takes X W) (hm : X.mg x = some (.ref (G.ca kc))) (hb : Binds X.K fd ps ds) (hd : Vals dvs ds) (gd : GVs G dws dvs)
    (hg : Gl X x := by rfl) (hdb : (x == ("__debug__" : Str)) = false := by decide) :
    IE G B W X (.Call (.Name x p) [] [] pos) (mMk kc (fun vs h => chkI N fi (vs ++ dws) h) mNil) := by
  refine ⟨fun pins s σ H Q I ⟨c, τ, L, eH, rl, s', q⟩ => ?_⟩
  refine wpAny_Call_Name_kw (ld_glob I hg hm ?_ hdb)
  subst eH
  exact PySem.W.callWith_K0 I.kIn M.kp (run_makeS (us := []) (vs := []) (E := fun σ k d H => W k d σ H) M F hr hb hd (passAt tk σ) I .nil fun y dx hy hdx ne => spI_new rl (gd c) hy hdx ne q)
/-- .. of an instance that is changed later -/
theorem spF_new {vs : List AV} {us : List V} {E : XK} {Q : VK} {q dx : Addr} (r : Rel G c) (xs : RVs G c vs us) (hx : c.H q = none) (hdx : c.H dx = none) (ne : dx ≠ q)
    (pp : Post G (RV G) c E Q (match chk N fn (.ref c.h.length :: vs) (c.h ++ [some (.ins kc [])]) with | .ok .non h' => .ok (.ref c.h.length) h' | .exc x fs h' => .exc x fs h' | _ => .stuck)) :
    spF G N fn (.ref q :: us) (upd (upd c.H dx (.own q)) q (.ins (G.ca kc) dx [])) (fun v H2 => v = .non ∧ Q (.ref q) H2) E := by
  have N1 := Nxt.alloc (p := q) (o := .ins kc []) (H' := upd (upd c.H dx (.own q)) q (.ins (G.ca kc) dx [])) r hx
    (fun b o z => by rw [upd_ne (ne_of_none z hx), upd_ne (ne_of_none z hdx)]; exact z) (fun c' M e => ⟨dx, [], by rw [e, upd_same], .nil⟩)
  have y : RV G { c with rho := ext c.rho c.h.length q, h := c.h ++ [some (.ins kc [])], H := upd (upd c.H dx (.own q)) q (.ins (G.ca kc) dx []) } (.ref c.h.length) (.ref (ext c.rho c.h.length q c.h.length)) := .ref (by simp)
  rw [ext_same] at y
  unfold chk at pp
  by_cases hl : (AV.ref c.h.length :: vs).length = N
  · rw [if_pos hl] at pp
    refine ⟨_, .ref c.h.length :: vs, rfl, N1.rel, .cons y (xs.mono N1.mv), hl, ?_⟩
    show Post G (RV G) _ E _ (fn (.ref c.h.length :: vs) (c.h ++ [some (.ins kc [])]))
    revert pp
    cases fn (.ref c.h.length :: vs) (c.h ++ [some (.ins kc [])]) with
    | ok v h' =>
      intro pp c' u N2 e xu
      cases v with
      | non =>
        cases xu
        exact ⟨rfl, pp c' (.ref q) (N1.trans N2) e (y.mono N2.mv)⟩
      | _ => exact pp.elim
    | exc z fs h' => exact fun pp c' cls d N2 e xx => pp c' cls d (N1.trans N2) e xx
    | stuck => exact fun pp => pp.elim
  · rw [if_neg hl] at pp
    exact pp.elim
theorem ie_mkR (M : Mk X.K (G.ca kc) f) (F : FnOk X.prog X.w X.K X.mg X.base (L2.CX X.prog X.w) k f fd ps (spF G N fn)) (hr : Room (k + 1) X.A) (tk : Takes X W) (hm : X.mg x = some (.ref (G.ca kc))) (hb : Binds X.K fd ps ds) (hd : Vals dvs ds) (gd : GVs G dws dvs)
    (ha : IA G B W X (e :: es) ma) (hg : Gl X x := by rfl) (hdb : (x == ("__debug__" : Str)) = false := by decide) (he : starEach (e :: es) X.env = (false, eval e X.env) :: starEach es X.env := by rfl) (hpl : (backTo pos (starEach es X.env)).any (·.1) = false := by rfl) :
    IE G B W X (.Call (.Name x p) (e :: es) [] pos) (mMkR kc (fun vs h => chk N fn (vs ++ dws) h) ma) := by
  refine ⟨fun pins s σ H Q I ⟨c, τ, L, eH, rl, s', q⟩ => ?_⟩
  refine wpAny_Call_Name_kw (ld_glob I hg hm ?_ hdb)
  refine PySem.W.callWith_K (h₀ := X.base) I.ok.mod.kin M.kp (thn (ha.run pos pins s σ H _ I ⟨c, τ, L, eH, rl, s', Post.bind (R := RVs G) q⟩) fun us s1 ⟨vs, H1, I1, r, c1, ws, e1, N1, x1, p1⟩ => ⟨I1.kIn, ?_⟩) he hpl
  subst e1
  exact run_makeS (E := fun σ k d H => W k d σ H) M F hr hb hd (passAt tk σ) I1 r fun y dx hy hdx ne => spF_new N1.rel (x1.append (gd c1)) hy hdx ne p1
theorem ie_mkR0 (M : Mk X.K (G.ca kc) f) (F : FnOk X.prog X.w X.K X.mg X.base (L2.CX X.prog X.w) k f fd ps (spF G N fn)) (hr : Room (k + 1) X.A) (tk : Takes X W) (hm : X.mg x = some (.ref (G.ca kc))) (hb : Binds X.K fd ps ds) (hd : Vals dvs ds) (gd : GVs G dws dvs)
    (hg : Gl X x := by rfl) (hdb : (x == ("__debug__" : Str)) = false := by decide) :
    IE G B W X (.Call (.Name x p) [] [] pos) (mMkR kc (fun vs h => chk N fn (vs ++ dws) h) mNil) := by
  refine ⟨fun pins s σ H Q I ⟨c, τ, L, eH, rl, s', q⟩ => ?_⟩
  refine wpAny_Call_Name_kw (ld_glob I hg hm ?_ hdb)
  subst eH
  exact PySem.W.callWith_K0 I.kIn M.kp (run_makeS (us := []) (vs := []) (E := fun σ k d H => W k d σ H) M F hr hb hd (passAt tk σ) I .nil fun y dx hy hdx ne => spF_new rl (gd c) hy hdx ne q)
end
end PI
/-! PIh: errors raised and caught; fields stored; lists that a slot alone holds. -/
namespace PI
open PySem PySem.Spec PyProof.Rows L2
/-! ### raise -/
abbrev MX := AS → AH → Res (XC × List (Nat × AV))
def PostX (G : Gx) (c : Cfg) (W : XK) (Q : XK) : Res (XC × List (Nat × AV)) → Prop
  | .ok (x, fs) h' => ∀ c' cls d, Nxt G c c' → c'.h = h' → RX G c' x fs cls d → Q cls d c'.H
  | .exc x fs h' => ∀ c' cls d, Nxt G c c' → c'.h = h' → RX G c' x fs cls d → W cls d c'.H
  | .stuck => False
def tX (G : Gx) (B : Bx) (W : WX) (m : MX) : SL → Hp → XK → Prop := fun σ H Q => ∃ c τ L, c.H = H ∧ Rel G c ∧ RS G B c L τ σ ∧ PostX G c (fun k d H' => W k d σ H') Q (m τ c.h)
def IX (G : Gx) (B : Bx) (W : WX) (X : Cx) (e : Expr) (m : MX) : Prop := PMk X e (tX G B W m)
def mExc (x : XC) (fs : List Nat) (ma : MA) : MX := fun τ h => (ma τ h).bind fun vs h => if vs.length = fs.length then .ok (x, (fs.zip vs).reverse) h else .stuck
def sRaise (m : MX) : MS := fun τ h => (m τ h).bindS τ fun q h => .exc q.1 q.2 τ h
section
variable {G : Gx} {B : Bx} {zs : Addr → Prop} {W : WX} {X : Cx} {c c' : Cfg} {L : List Addr} {τ : AS} {σ : SL} {pos : Pos} {e : Expr} {mx : MX}
theorem is_raise (hc : X.calm = true) (tk : Takes X W) (he : IX G B W X e mx) : IS G B zs W X (.Raise (some e) none pos) (sRaise mx) := PS.imp (ps_raise hc tk he) fun D σ H ⟨c, τ, L, eH, r, o, s, p⟩ => by
  refine ⟨c, τ, L, eH, r, s, ?_⟩
  unfold sRaise at p
  revert p
  cases mx τ c.h with
  | ok q h1 => exact fun p c' k d N e x => p c' L σ k d (Stp.of N o) e x (s.nxt N)
  | exc x fs h1 => exact fun p c' k d N e x => p c' L σ k d (Stp.of N o) e x (s.nxt N)
  | stuck => exact fun p => p.elim
/-- what an own error's __init__ does: a field after another, from the left -/
def spE (C : Addr) (fs : List Str) : Sp := fun us H Q _ => ∃ a vs, us = .ref a :: vs ∧ vs.length = fs.length ∧ H a = some (exo a C none) ∧
  ∀ d H2, H d = none → d ≠ a → H2 a = some (exo a C (some d)) → H2 d = some (exd d (fs.zip vs).reverse) → (∀ b, b ≠ a → b ≠ d → H2 b = H b) → Q .non H2
end
section
variable {P : Program} {w : World} {K : PySem.W.Frag} {mg : Str → Option Value} {base : Heap}
theorem ok_einit1 {x qual : Str} {st : Stmt} {f C : Addr} {fd : FuncData} {s p1 f1 : Str} {q1 q2 q3 q4 : Pos} (F : Fun K x qual st f fd) (S : FnScope [s, p1] [s, p1] (defScope st)) (T : OexC K C) (n1 : PySem.W.findIn K (.ref C) f1 = some none)
    (hb : defBody st = [.Assign [.Attribute (.Name s q1) f1 q2] (.Name p1 q3) q4]) (v0 : Vis (defScope st) s) (v1 : Vis (defScope st) p1)
    (d0 : (s == ("__debug__" : Str)) = false) (c0 : (s == ("__classdict__" : Str)) = false) (d1 : (p1 == ("__debug__" : Str)) = false) (c1 : (p1 == ("__classdict__" : Str)) = false) :
    FnOk P w K mg base (L2.CX P w) 1 f fd [s, p1] (spE C [f1]) := by
  refine F.okX S (fun vs H Q E h => ?_) (fun cdv A outer s' H vs Q E hr h => ?_)
  · obtain ⟨a, vs, rfl, l, _⟩ := h
    simp at l
    simp [l]
  · obtain ⟨a, vs, rfl, l, ea, k⟩ := h
    match vs, l with
    | [u1], _ =>
      rw [hb]
      refine ⟨_, pss_one (ps_ost (pe_var (i := 0) rfl v0 d0 c0) (pe_var (i := 1) rfl v1 d1 c1)), ?_⟩
      refine ⟨u1, rfl, _, rfl, a, C, rfl, T, n1, .inl ⟨ea, fun d hd ne => ?_⟩⟩
      exact k d _ hd ne upd_same (by rw [upd_ne ne, upd_same]; rfl) fun b h1 h2 => by rw [upd_ne h1, upd_ne h2]
theorem ok_einit2 {x qual : Str} {st : Stmt} {f C : Addr} {fd : FuncData} {s p1 p2 f1 f2 : Str} {q1 q2 q3 q4 r1 r2 r3 r4 : Pos} (F : Fun K x qual st f fd) (S : FnScope [s, p1, p2] [s, p1, p2] (defScope st)) (T : OexC K C) (n1 : PySem.W.findIn K (.ref C) f1 = some none) (n2 : PySem.W.findIn K (.ref C) f2 = some none)
    (hb : defBody st = [.Assign [.Attribute (.Name s q1) f1 q2] (.Name p1 q3) q4, .Assign [.Attribute (.Name s r1) f2 r2] (.Name p2 r3) r4]) (v0 : Vis (defScope st) s) (v1 : Vis (defScope st) p1) (v2 : Vis (defScope st) p2)
    (d0 : (s == ("__debug__" : Str)) = false) (c0 : (s == ("__classdict__" : Str)) = false) (d1 : (p1 == ("__debug__" : Str)) = false) (c1 : (p1 == ("__classdict__" : Str)) = false) (d2 : (p2 == ("__debug__" : Str)) = false) (c2 : (p2 == ("__classdict__" : Str)) = false) :
    FnOk P w K mg base (L2.CX P w) 1 f fd [s, p1, p2] (spE C [f1, f2]) := by
  refine F.okX S (fun vs H Q E h => ?_) (fun cdv A outer s' H vs Q E hr h => ?_)
  · obtain ⟨a, vs, rfl, l, _⟩ := h
    simp at l
    simp [l]
  · obtain ⟨a, vs, rfl, l, ea, k⟩ := h
    match vs, l with
    | [u1, u2], _ =>
      rw [hb]
      refine ⟨_, pss_cons (ps_ost (pe_var (i := 0) rfl v0 d0 c0) (pe_var (i := 1) rfl v1 d1 c1)) (pss_one (ps_ost (pe_var (i := 0) rfl v0 d0 c0) (pe_var (i := 2) rfl v2 d2 c2))), ?_⟩
      refine ⟨u1, rfl, _, rfl, a, C, rfl, T, n1, .inl ⟨ea, fun d hd ne => ?_⟩⟩
      refine ⟨u2, rfl, _, rfl, a, C, rfl, T, n2, .inr ⟨d, [(f1, u1)], upd_same, by rw [upd_ne ne, upd_same], by simp, ?_⟩⟩
      exact k d _ hd ne (by rw [upd_ne (Ne.symm ne), upd_same]) upd_same fun b h1 h2 => by rw [upd_ne h2, upd_ne h1, upd_ne h2]
end
section
variable {G : Gx} {B : Bx} {zs : Addr → Prop} {W : WX} {X : Cx} {c c' : Cfg} {L : List Addr} {τ : AS} {σ : SL} {pos p : Pos} {e : Expr} {es : List Expr} {ma : MA} {k kc : Nat} {fI : Addr} {fd : FuncData} {ps : List Str} {x : Str} {fs : List Nat}
theorem zip_rvf {vs : List AV} {us : List V} : ∀ (fs : List Nat) (acc : List (Nat × AV)) (uacc : List (Str × V)), RVs G c vs us → RVf G c acc uacc → RVf G c ((fs.zip vs).reverse ++ acc) (((fs.map G.nm).zip us).reverse ++ uacc)
  | [], acc, uacc, _, q => by simpa using q
  | f :: fs, acc, uacc, .nil, q => by simpa using q
  | f :: fs, acc, uacc, .cons x r, q => by
    have y := zip_rvf fs ((f, _) :: acc) ((G.nm f, _) :: uacc) r (.cons x q)
    simpa using y
theorem ix_mk (T : OexC X.K (G.ca kc)) (iC : PySem.W.findIn X.K (.ref (G.ca kc)) "__init__" = some (some (.ref fI))) (tI : PySem.W.typeIn X.K (.ref fI) = some (.type "function"))
    (F1 : FnOk X.prog X.w X.K X.mg X.base (L2.CX X.prog X.w) k fI fd ps (spE (G.ca kc) (fs.map G.nm))) (hr : Room (k + 1) X.A) (hb : Binds X.K fd ps []) (hm : X.mg x = some (.ref (G.ca kc))) (ha : IA G B W X (e :: es) ma) (hfs : fs.length ≤ 1000 := by decide) (hg : Gl X x := by rfl)
    (hdb : (x == ("__debug__" : Str)) = false := by decide) (he : starEach (e :: es) X.env = (false, eval e X.env) :: starEach es X.env := by rfl) (hpl : (backTo pos (starEach es X.env)).any (·.1) = false := by rfl) :
    IX G B W X (.Call (.Name x p) (e :: es) [] pos) (mExc (.own kc) fs ma) := by
  intro pins s σ H Q I ⟨c, τ, L, eH, rl, s', q⟩
  refine pmk_oex T iC tI F1 hr hb .nil passL hg hm ha hdb he hpl pins s σ H Q I ⟨c, τ, L, eH, rl, s', ?_⟩
  have q2 : PostX G c (fun k d H' => W k d σ H') Q ((ma τ c.h).bind fun vs h => if vs.length = fs.length then .ok (.own kc, (fs.zip vs).reverse) h else .stuck) := q
  revert q2
  cases ma τ c.h with
  | exc y fy h1 => exact fun q2 => q2
  | stuck => exact fun q2 => q2
  | ok vs h1 =>
    intro q2 c1 us N1 e1 x1
    unfold Res.bind at q2
    simp only at q2
    by_cases hl : vs.length = fs.length
    · rw [if_pos hl] at q2
      refine ⟨?_, fun a ha => ?_⟩
      · rw [← x1.length, hl]; exact hfs
      · rw [List.append_nil]
        refine ⟨a, us, rfl, by rw [← x1.length, hl, List.length_map], upd_same, fun d H2 hd ne h1 h2 h3 => ⟨rfl, d, _, h1, h2, ?_, ?_⟩⟩
        · rw [upd_ne ne] at hd; exact hd
        · have hd' : c1.H d = none := by rw [upd_ne ne] at hd; exact hd
          have keep : ∀ b o, c1.H b = some o → upd (del H2 a) d (.xd ((fs.map G.nm).zip us).reverse) b = some o := fun b o z => by
            have nb : b ≠ a := ne_of_none z ha
            have nd : b ≠ d := ne_of_none z hd'
            rw [upd_ne nd, del_ne nb, h3 b nb nd, upd_ne nb]; exact z
          have N2 := Nxt.grow N1.rel keep
          refine q2 _ _ _ (N1.trans N2) e1 ⟨rfl, .inr ⟨d, _, rfl, upd_same, N1.rel.frz hd', ?_⟩⟩
          have y := zip_rvf fs [] [] (x1.mono N2.mv) .nil
          simpa using y
    · rw [if_neg hl] at q2
      exact q2.elim
end
/-! ### try -/
def noE (τ : AS) : Bool := τ.all fun o => match o with
  | some (.mE _ _) => false
  | _ => true
def Bx.exc (B : Bx) (a : Addr) (k : Value) (d : Option Addr) : Bx := { B with ea := a, ec := k, ed := d }
/-- the suite's end -/
def suiteEnd (i : Nat) : SRes → SRes
  | .nx τ h => if noE (τ.set i none) then .nx (τ.set i none) h else .stuck
  | .bk τ h => if noE (τ.set i none) then .bk (τ.set i none) h else .stuck
  | .ct τ h => if noE (τ.set i none) then .ct (τ.set i none) h else .stuck
  | .rt v h => .rt v h
  | _ => .stuck
def sTryAs (b : MS) (mt : XC → Option Bool) (i : Nat) (su : MS) : MS := fun τ h => match b τ h with
  | .exc x fs τ' h' => match mt x with
    | some true => if noE τ' ∧ i < τ'.length then suiteEnd i (su (τ'.set i (some (.mE x fs))) h') else .stuck
    | some false => .exc x fs τ' h'
    | none => .stuck
  | r => r
def suiteEnd0 : SRes → SRes
  | .exc _ _ _ _ => .stuck
  | r => r
def sTry (b : MS) (mt : XC → Option Bool) (su : MS) : MS := fun τ h => match b τ h with
  | .exc x fs τ' h' => match mt x with
    | some true => suiteEnd0 (su τ' h')
    | some false => .exc x fs τ' h'
    | none => .stuck
  | r => r
section
variable {G : Gx} {B B' : Bx} {zs : Addr → Prop} {W : WX} {X : Cx} {c c' : Cfg} {L : List Addr} {τ : AS} {σ : SL} {pos pos' p np : Pos} {e : Expr} {es : List Expr} {ma : MA} {x n : Str} {i : Nat} {mt : XC → Option Bool} {cv : Value} {body suite : List Stmt} {b0 : Stmt} {mb ms : MS}
theorem RS.ex (r : RS G B c L τ σ) (h : noE τ = true) (e : B'.me = B.me) : RS G B' c L τ σ := by
  induction r with
  | nil => exact .nil
  | cons y _ ih =>
    unfold noE at h
    rw [List.all_cons, Bool.and_eq_true] at h
    refine .cons ?_ (ih h.2)
    cases y with
    | skip => exact .skip
    | val x => exact .val x
    | mL z e x => exact .mL z e x
    | mD z e x => exact .mD z e x
    | mI z e1 x => rw [← e] at z e1 ⊢; exact .mI z e1 x
    | mE x => exact absurd h.1 (by simp)
theorem RS.gone (o : Own zs L c) (r : Rel G c) (s : RS G B c L τ σ) (i : Nat) (t : Option V) : ∃ L', Stp G zs L c L' c ∧ RS G B c L' (τ.set i none) (σ.set i t) := by
  by_cases hi : i < τ.length
  · obtain ⟨P, S, l, u, e1, e2, y, f⟩ := s.focus (i := i) (o := τ[i]) (List.getElem?_eq_getElem hi)
    have q := f c [] none t .refl (fun a h => ⟨s.z a (by rw [e1]; simp at h ⊢; rcases h with h | h <;> simp [h]), rfl⟩) .skip
    have sub : ∀ a, a ∈ P ++ [] ++ S → a ∈ L := fun a h => by rw [e1]; simp at h ⊢; rcases h with h | h <;> simp [h]
    refine ⟨_, ⟨r, .refl, ⟨o.low, fun a h => o.dis a (sub a h), ?_⟩, fun _ _ => rfl, fun a h => .inl (sub a h)⟩, q⟩
    have nd := o.nd
    rw [e1] at nd
    simp only [List.append_nil]
    exact nd.sublist (List.Sublist.append (List.sublist_append_left P l) (List.Sublist.refl S))
  · have hl : τ.length = σ.length := by
      clear o r hi
      induction s with
      | nil => rfl
      | cons _ _ ih => simp [ih]
    rw [List.set_eq_of_length_le (by omega), List.set_eq_of_length_le (by omega)]
    exact ⟨L, .refl r o, s⟩
theorem RS.exc (o : Own zs L c) (r : Rel G c) (s : RS G B c L τ σ) {k : Value} {d : Option Addr} {a : Addr} {y : XC} {fs : List (Nat × AV)} (hi : i < τ.length) (h : noE τ = true) (q : RX G c y fs k d) :
    ∃ L', Stp G zs L c L' c ∧ RS G (B.exc a k d) c L' (τ.set i (some (.mE y fs))) (σ.set i (some (.ref a))) := by
  have s2 : RS G (B.exc a k d) c L τ σ := s.ex h rfl
  obtain ⟨P, S, l, u, e1, e2, _, f⟩ := s2.focus (i := i) (o := τ[i]) (List.getElem?_eq_getElem hi)
  have q := f c [] (some (.mE y fs)) (some (.ref a)) .refl (fun a h => ⟨s.z a (by rw [e1]; simp at h ⊢; rcases h with h | h <;> simp [h]), rfl⟩) (SR.mE (B := B.exc a k d) q)
  have sub : ∀ a, a ∈ P ++ [] ++ S → a ∈ L := fun a h => by rw [e1]; simp at h ⊢; rcases h with h | h <;> simp [h]
  refine ⟨_, ⟨r, .refl, ⟨o.low, fun a h => o.dis a (sub a h), ?_⟩, fun _ _ => rfl, fun a h => .inl (sub a h)⟩, q⟩
  have nd := o.nd
  rw [e1] at nd
  simp only [List.append_nil]
  exact nd.sublist (List.Sublist.append (List.sublist_append_left P l) (List.Sublist.refl S))
theorem is_try_as (i : Nat) (hN : X.N.Nodup) (tk : Takes X W) (hc : Names X x cv) (hmt : ∀ y b, mt y = some b → PySem.W.exmOne X.K (G.xv y) cv = some b)
    (hb : ∀ (W : WX) (pn : List (Addr × Obj)) (xe : Value → Shared → Prop), Takes (X.tr pn xe) W → PassesOwn (model X.prog X.w) X.A X.env xe → ISs G B zs W (X.tr pn xe) body mb)
    (hsu : ∀ (a : Addr) (oe : Obj) (cls : Value) (d : Option Addr) (pn : List (Addr × Obj)), Zc cls d oe → (∃ vs, oe.data = .fields vs) → ISs G (B.exc a cls d) zs (fun _ _ _ _ => False) (X.suite a ((a, oe) :: pn)) (b0 :: suite) ms)
    (hs : X.stack = X.env :: X.outer := by rfl) (hf : X.env.frame = some X.env.locals := by rfl) (hi : X.N[i]? = some n := by rfl) (hln : X.env.kindOf n = some .local := by rfl) :
    IS G B zs W X (.Try body [.ExceptHandler (some (.Name x np)) (some n) (b0 :: suite) pos'] [] [] pos) (sTryAs mb mt i ms) := by
  refine PS.imp (ps_try_as (tb := fun W => tS G B zs W mb) (ts := fun a cls d => tS G (B.exc a cls d) zs (fun _ _ _ _ => False) ms) hs hf hN hi hln hc tk hb hsu) fun D σ H ⟨c, τ, L, eH, r, o, s, p⟩ => ?_
  refine ⟨c, τ, L, eH, r, o, s, ?_⟩
  unfold sTryAs at p
  revert p
  cases mb τ c.h with
  | nx τ h => exact fun p => p
  | rt τ h => exact fun p => p
  | bk τ h => exact fun p => p
  | ct τ h => exact fun p => p
  | stuck => exact fun p => p
  | exc y fs τ1 h1 =>
    intro p c1 L1 σ1 k d S e1 x1 s1
    simp only at p
    obtain rfl : k = G.xv y := x1.1
    cases q : mt y with
    | none => rw [q] at p; exact p.elim
    | some b =>
      rw [q] at p
      refine ⟨b, hmt y b q, fun eb a ha => ?_, fun eb => ?_⟩
      · subst eb
        simp only at p
        by_cases hh : noE τ1 = true ∧ i < τ1.length
        · rw [if_pos hh] at p
          obtain ⟨L2, S2, s2⟩ := RS.exc (a := a) S.own S.rel s1 hh.2 hh.1 x1
          refine ⟨c1, _, L2, rfl, S2.rel, S2.own, s2, ?_⟩
          subst e1
          have p2 := PostS.trans (S.trans S2) p
          revert p2
          unfold suiteEnd
          have back : ∀ {c3 : Cfg} {L3 : List Addr} {τ3 : AS} {σ3 : SL}, Stp G zs L2 c1 L3 c3 → RS G (B.exc a (G.xv y) d) c3 L3 τ3 σ3 → noE (τ3.set i none) = true → ∃ L4, Stp G zs L2 c1 L4 c3 ∧ RS G B c3 L4 (τ3.set i none) (σ3.set i none) := fun {c3 L3 τ3 σ3} S3 s3 hn => by
            obtain ⟨L4, S4, s4⟩ := RS.gone S3.own S3.rel s3 i none
            exact ⟨L4, S3.trans S4, s4.ex hn rfl⟩
          cases ms (τ1.set i (some (.mE y fs))) c1.h with
          | nx τ3 h3 =>
            intro p2 c3 L3 σ3 S3 e3 s3
            simp only at p2
            by_cases hn : noE (τ3.set i none) = true
            · rw [if_pos hn] at p2
              obtain ⟨L4, S4, s4⟩ := back S3 s3 hn
              exact p2 c3 L4 _ S4 e3 s4
            · rw [if_neg hn] at p2; exact p2.elim
          | bk τ3 h3 =>
            intro p2 c3 L3 σ3 S3 e3 s3
            simp only at p2
            by_cases hn : noE (τ3.set i none) = true
            · rw [if_pos hn] at p2
              obtain ⟨L4, S4, s4⟩ := back S3 s3 hn
              exact p2 c3 L4 _ S4 e3 s4
            · rw [if_neg hn] at p2; exact p2.elim
          | ct τ3 h3 =>
            intro p2 c3 L3 σ3 S3 e3 s3
            simp only at p2
            by_cases hn : noE (τ3.set i none) = true
            · rw [if_pos hn] at p2
              obtain ⟨L4, S4, s4⟩ := back S3 s3 hn
              exact p2 c3 L4 _ S4 e3 s4
            · rw [if_neg hn] at p2; exact p2.elim
          | rt v h3 => exact fun p2 c3 L3 u S3 e3 x3 => p2 c3 L3 u S3 e3 x3
          | exc _ _ _ _ => exact fun p2 => p2.elim
          | stuck => exact fun p2 => p2.elim
        · rw [if_neg hh] at p
          exact p.elim
      · subst eb
        exact p c1 L1 σ1 _ d S e1 x1 s1
theorem is_try (tk : Takes X W) (hc : Names X x cv) (hmt : ∀ y b, mt y = some b → PySem.W.exmOne X.K (G.xv y) cv = some b)
    (hb : ∀ (W : WX) (pn : List (Addr × Obj)) (xe : Value → Shared → Prop), Takes (X.tr pn xe) W → PassesOwn (model X.prog X.w) X.A X.env xe → ISs G B zs W (X.tr pn xe) body mb)
    (hsu : ∀ (a : Addr) (oe : Obj) (cls : Value) (d : Option Addr) (pn : List (Addr × Obj)), Zc cls d oe → (∃ vs, oe.data = .fields vs) → ISs G B zs (fun _ _ _ _ => False) (X.suite a ((a, oe) :: pn)) (b0 :: suite) ms)
    (hs : X.stack = X.env :: X.outer := by rfl) (hf : X.env.frame = some X.env.locals := by rfl) :
    IS G B zs W X (.Try body [.ExceptHandler (some (.Name x np)) none (b0 :: suite) pos'] [] [] pos) (sTry mb mt ms) := by
  refine PS.imp (ps_try_only (tb := fun W => tS G B zs W mb) (ts := fun a cls d => tS G B zs (fun _ _ _ _ => False) ms) hs hf hc tk hb hsu) fun D σ H ⟨c, τ, L, eH, r, o, s, p⟩ => ?_
  refine ⟨c, τ, L, eH, r, o, s, ?_⟩
  unfold sTry at p
  revert p
  cases mb τ c.h with
  | nx τ h => exact fun p => p
  | rt τ h => exact fun p => p
  | bk τ h => exact fun p => p
  | ct τ h => exact fun p => p
  | stuck => exact fun p => p
  | exc y fs τ1 h1 =>
    intro p c1 L1 σ1 k d S e1 x1 s1
    simp only at p
    obtain rfl : k = G.xv y := x1.1
    cases q : mt y with
    | none => rw [q] at p; exact p.elim
    | some b =>
      rw [q] at p
      refine ⟨b, hmt y b q, fun eb a ha => ?_, fun eb => ?_⟩
      · subst eb
        simp only at p
        refine ⟨c1, _, L1, rfl, S.rel, S.own, s1, ?_⟩
        subst e1
        have p2 := PostS.trans S p
        revert p2
        unfold suiteEnd0
        cases ms τ1 c1.h with
        | nx τ3 h3 => exact fun p2 => p2
        | bk τ3 h3 => exact fun p2 => p2
        | ct τ3 h3 => exact fun p2 => p2
        | rt v h3 => exact fun p2 => p2
        | exc _ _ _ _ => exact fun p2 => p2.elim
        | stuck => exact fun p2 => p2.elim
      · subst eb
        exact p c1 L1 σ1 _ d S e1 x1 s1
end
end PI
/-! PIk: fields stored; an error's fields; lists that a slot alone holds. -/
namespace PI
open PySem PySem.Spec PyProof.Rows L2
def few (fs : List (Nat × AV)) : Bool := decide (fs.length ≤ 900)
/-- self.f = e in an __init__ -/
def sOwnF (ks : List Nat) (f : Nat) (m : ME) : MS := fun τ h => (m τ h).bindS τ fun v h => match τ with
  | some (.mI k fs) :: r => if ks.contains k && few fs then .nx (some (.mI k (aput f v fs)) :: r) h else .stuck
  | _ => .stuck
/-- self.f there -/
def mOwnF (ks : List Nat) (f : Nat) : ME := fun τ h => match τ with
  | some (.mI k fs) :: _ => if ks.contains k then (match fs.lookup f with | some v => if plainV v then .ok v h else .stuck | none => .stuck) else .stuck
  | _ => .stuck
/-- o.f = e -/
def sFldSet (ks : List Nat) (f : Nat) (o m : ME) : MS := fun τ h => (m τ h).bindS τ fun v h => (o τ h).bindS τ fun w h => match w with
  | .ref n => match h[n]? with
    | some (some (.ins k fs)) => if ks.contains k && few fs then .nx τ (h.set n (some (.ins k (aput f v fs)))) else .stuck
    | _ => .stuck
  | _ => .stuck
/-- x = [..], a list that the slot alone holds -/
def sNewL (i : Nat) (ma : MA) : MS := fun τ h => (ma τ h).bindS τ fun vs h => if i < τ.length ∧ small vs.length = true then .nx (τ.set i (some (.mL vs))) h else .stuck
/-- x.append(e) -/
def sApp (i : Nat) (m : ME) : MS := fun τ h => match τ[i]? with
  | some (some (.mL xs)) => (m τ h).bindS τ fun v h => if small (xs.length + 1) = true then .nx (τ.set i (some (.mL (xs ++ [v])))) h else .stuck
  | _ => .stuck
/-- what a slot alone holds becomes a value -/
def thaw : AV → AV
  | .mL xs => .fl xs
  | .mD xs => .fd xs
  | v => v
/-- no object in the making -/
def noI (τ : AS) : Bool := τ.all fun o => match o with
  | some (.mI _ _) => false
  | _ => true
def sFrz (i : Nat) : MS := fun τ h => match τ[i]? with
  | some (some v) => .nx (τ.set i (some (thaw v))) h
  | _ => .stuck
/-- a flat answer -/
def flatA : AV → Bool
  | .non => true
  | .bl _ => true
  | .int _ => true
  | .str _ => true
  | _ => false
/-- for one expression all that slots alone hold may be read -/
def mBor (m : ME) : ME := fun τ h => (m (τ.map fun o => o.map thaw) h).bind fun v h => if flatA v then .ok v h else .stuck
def tBor (m : MT) : MT := fun τ h => m (τ.map fun o => o.map thaw) h
/-- e.f, e the error in hand -/
def mExF (ks : List Nat) (i f : Nat) : ME := fun τ h => match τ[i]? with
  | some (some (.mE (.own k) fs)) => if ks.contains k then (match fs.lookup f with | some v => if plainV v then .ok v h else .stuck | none => .stuck) else .stuck
  | _ => .stuck
section
variable {G : Gx} {B : Bx} {zs : Addr → Prop} {W : WX} {X : Cx} {c c' : Cfg} {L : List Addr} {τ : AS} {σ : SL} {pos pos' p : Pos} {e o : Expr} {es : List Expr} {m mo : ME} {ma : MA} {mt : MT} {x : Str} {i : Nat}
theorem set_self {α : Type} {l : List α} {i : Nat} {x : α} (e : l[i]? = some x) : l.set i x = l := by
  apply List.ext_getElem?
  intro j
  by_cases hj : i = j
  · subst hj
    rw [e]
    obtain ⟨hl, _⟩ := List.getElem?_eq_some_iff.mp e
    rw [List.getElem?_set_self hl]
  · rw [List.getElem?_set_ne hj]
theorem len_few {fs : List (Nat × AV)} {uf : List (Str × V)} (x : RVf G c fs uf) (e : few fs = true) : uf.length < 1000 := by
  have := of_decide_eq_true e
  rw [← x.length]
  omega
/-- the first slot holds the object that is being made -/
theorem is_ownf {ks : List Nat} {f : Nat} {fx s : Str} {q1 q2 : Pos} (he : IE G B W X e m) (hf : fx = G.nm f) (hks : ∀ k, k ∈ ks → FldOk G X.K f k) (hN : X.N[0]? = some s := by rfl) (hv : Vis X.env.scope s := by first | exact Or.inl rfl | exact Or.inr (Or.inl rfl)) (hd : (s == ("__debug__" : Str)) = false := by decide)
    (hcd : (s == ("__classdict__" : Str)) = false := by decide) (hs : swapsWith e (some (.Attribute (.Name s q1) fx q2)) pos.line X.env = pure false := by rfl) : IS G B zs W X (.Assign [.Attribute (.Name s q1) fx q2] e pos) (sOwnF ks f m) := by
  subst hf
  refine PS.imp (ps_fld (pv 0 hN hv hd hcd) he hs) fun D σ H ⟨c, τ, L, eH, r, o, s, p⟩ => ?_
  refine ⟨c, τ, L, eH, r, s, (PostS.bindS (R := RV G) o s p).imp fun u H1 ⟨c1, v, e1, N1, x1, p1⟩ => ?_⟩
  subst e1
  have s1 := s.nxt N1
  cases s1 with
  | nil => exact p1.elim
  | @cons l L2 o2 s2 τ2 σ2 sr s1 =>
    cases sr with
    | @mI k fs dx us z1 ei xf =>
      simp only at p1
      by_cases hk : (ks.contains k && few fs) = true
      · rw [if_pos hk] at p1
        rw [Bool.and_eq_true] at hk
        have hk' : k ∈ ks := by simpa using hk.1
        refine ⟨_, rfl, B.me, _, dx, us, rfl, ei, (hks k hk').cl, (hks k hk').no, len_few xf hk.2, ?_⟩
        have o1 := o.nxt N1
        have M := Mv.turn (O := .ins (G.ca k) dx (putF (G.nm f) u us)) z1
        have R := N1.rel.turn (O := .ins (G.ca k) dx (putF (G.nm f) u us)) z1
        have nd := o1.nd
        rw [List.cons_append, List.nil_append, List.nodup_cons] at nd
        refine p1 _ _ _ ⟨R, M, ⟨o1.low, o1.dis, o1.nd⟩, fun a za => upd_ne fun y => o1.dis B.me (by simp) (by rw [← y]; exact za), fun _ h => .inl h⟩ rfl (.cons (.mI z1 upd_same ((xf.put x1).mono M)) (s1.mono M fun a h => ⟨s1.z a h, upd_ne fun y => nd.1 (by rw [← y]; exact h)⟩))
      · rw [if_neg hk] at p1; exact p1.elim
    | skip => exact p1.elim
    | @val v _ q => cases v <;> first | exact p1.elim | cases q
    | mL _ _ _ => exact p1.elim
    | mD _ _ _ => exact p1.elim
    | mE _ => exact p1.elim
theorem ie_ownf {ks : List Nat} {f : Nat} {fx s : Str} {q1 : Pos} (hf : fx = G.nm f) (hks : ∀ k, k ∈ ks → FldOk G X.K f k) (hN : X.N[0]? = some s := by rfl) (hv : Vis X.env.scope s := by first | exact Or.inl rfl | exact Or.inr (Or.inl rfl)) (hd : (s == ("__debug__" : Str)) = false := by decide)
    (hcd : (s == ("__classdict__" : Str)) = false := by decide) (hb : attributeBase (.Name s q1) fx X.env (eval (.Name s q1) X.env) = eval (.Name s q1) X.env := by rfl) : IE G B W X (.Attribute (.Name s q1) fx pos) (mOwnF ks f) := by
  subst hf
  refine PE.imp (pe_fld (pv 0 hN hv hd hcd) hb) fun σ H Q ⟨c, τ, L, eH, r, s1, p1⟩ => ?_
  subst eH
  cases s1 with
  | nil => exact p1.elim
  | @cons l L2 o2 s2 τ2 σ2 sr s1 =>
    cases sr with
    | @mI k fs dx us z1 ei xf =>
      unfold mOwnF at p1
      simp only at p1
      by_cases hk : ks.contains k = true
      · rw [if_pos hk] at p1
        have hk' : k ∈ ks := by simpa using hk
        cases q2 : fs.lookup f with
        | none => rw [q2] at p1; exact p1.elim
        | some w =>
          rw [q2] at p1
          simp only at p1
          by_cases hp : plainV w = true
          · rw [if_pos hp] at p1
            obtain ⟨u2, e2, x2⟩ := xf.get q2
            exact ⟨_, rfl, B.me, _, dx, us, u2, rfl, ei, (hks k hk').cl, (hks k hk').no, e2, fin r x2 p1⟩
          · rw [if_neg hp] at p1; exact p1.elim
      · rw [if_neg hk] at p1; exact p1.elim
    | skip => exact p1.elim
    | @val v _ q => cases v <;> first | exact p1.elim | cases q
    | mL _ _ _ => exact p1.elim
    | mD _ _ _ => exact p1.elim
    | mE _ => exact p1.elim
theorem is_fldset {ks : List Nat} {f : Nat} {fx : Str} (ho : IE G B W X o mo) (he : IE G B W X e m) (hf : fx = G.nm f) (hks : ∀ k, k ∈ ks → FldOk G X.K f k) (hs : swapsWith e (some (.Attribute o fx pos')) pos.line X.env = pure false := by rfl) :
    IS G B zs W X (.Assign [.Attribute o fx pos'] e pos) (sFldSet ks f mo m) := by
  subst hf
  refine PS.imp (ps_fld ho he hs) fun D σ H ⟨c, τ, L, eH, r, o, s, p⟩ => ?_
  refine ⟨c, τ, L, eH, r, s, (PostS.bindS (R := RV G) o s p).imp fun u H1 ⟨c1, v, e1, N1, x1, p1⟩ => ?_⟩
  refine ⟨c1, τ, L, e1, N1.rel, s.nxt N1, (PostS.bindS (R := RV G) (o.nxt N1) (s.nxt N1) p1).imp fun u2 H2 ⟨c2, w, e2, N2, x2, p2⟩ => ?_⟩
  subst e2
  cases x2 with
  | @ref n hn =>
    simp only at p2
    split at p2
    · rename_i k fs q
      by_cases hk : (ks.contains k && few fs) = true
      · rw [if_pos hk] at p2
        rw [Bool.and_eq_true] at hk
        have hk' : k ∈ ks := by simpa using hk.1
        obtain ⟨dx, uf, q1, q2⟩ := N2.rel.obj n _ q
        refine ⟨_, _, dx, uf, rfl, q1, (hks k hk').cl, (hks k hk').no, len_few q2 hk.2, ?_⟩
        have N3 := Nxt.write (o' := .ins k (aput f v fs)) (O := .ins (G.ca k) dx (putF (G.nm f) u uf)) N2.rel q fun c3 M e3 => ⟨dx, _, e3, (q2.put (x1.mono N2.mv)).mono M⟩
        have o2 := (o.nxt N1).nxt N2
        exact p2 _ L σ (Stp.of N3 o2) rfl (((s.nxt N1).nxt N2).nxt N3)
      · rw [if_neg hk] at p2; exact p2.elim
    · exact p2.elim
  | _ => exact p2.elim
/-! lists that a slot alone holds -/
theorem Own.fresh {q : Addr} {O : HO} {P S l : List Addr} (r : Rel G c) (o : Own zs L c) (hq : c.H q = none) (e1 : L = P ++ l ++ S) (hz : ∀ a, a ∈ L → c.Z a) :
    Stp G zs L c (P ++ [q] ++ S) { c with Z := fun a => c.Z a ∨ a = q, H := upd c.H q O } := by
  have nz : ¬ c.Z q := r.nz hq
  have nq : q ∉ L := fun h => nz (hz q h)
  have sub : ∀ a, a ∈ P ++ S → a ∈ L := fun a h => by rw [e1]; simp at h ⊢; rcases h with h | h <;> simp [h]
  refine ⟨r.mine hq, Mv.mine hq, ⟨fun a z => .inl (o.low a z), fun a h z => ?_, ?_⟩, fun a z => upd_ne fun y => nz (by rw [← y]; exact o.low a z), fun a h => ?_⟩
  · by_cases y : a = q
    · exact nz (by rw [← y]; exact o.low a z)
    · exact o.dis a (sub a (by simp at h ⊢; rcases h with h | h | h; (exact .inl h); (exact absurd h y); (exact .inr h))) z
  · have nd := o.nd
    rw [e1] at nd
    have nd2 : (P ++ S).Nodup := nd.sublist (List.Sublist.append (List.sublist_append_left P l) (List.Sublist.refl S))
    have np : q ∉ P ++ S := fun h => nq (sub q h)
    rw [List.append_assoc]
    refine (List.perm_middle (a := q) (l₁ := P) (l₂ := S)).nodup_iff.mpr ?_
    exact List.nodup_cons.mpr ⟨np, nd2⟩
  · by_cases y : a = q
    · exact .inr (by rw [y]; exact hq)
    · exact .inl (sub a (by simp at h ⊢; rcases h with h | h | h; (exact .inl h); (exact absurd h y); (exact .inr h)))
theorem is_newL (i : Nat) {q1 : Pos} (hN : X.N.Nodup) (ha : IA G B W X es ma) (hi : X.N[i]? = some x := by rfl) (hx : Loc X.env.scope x := by first | exact Or.inl rfl | exact Or.inr rfl) (hs : swapsWith (.List es q1) (some (.Name x pos')) pos.line X.env = pure false := by rfl) (hf : X.fn x = true ∨ X.env.scope.names.lookup x = some .local := by first | exact .inl rfl | exact .inr rfl | assumption) :
    IS G B zs W X (.Assign [.Name x pos'] (.List es q1) pos) (sNewL i ma) := PS.imp (ps_set hN hi hx (pe_lst ha) hs hf) fun D σ H ⟨c, τ, L, eH, r, o, s, p⟩ => by
  refine ⟨c, τ, L, eH, r, s, (PostS.bindS (R := RVs G) o s p).imp fun u H1 ⟨c1, v, e1, N1, x1, p1⟩ => ?_⟩
  subst e1
  by_cases hh : i < τ.length ∧ small v.length = true
  · rw [if_pos hh] at p1
    refine ⟨by rw [← x1.length]; exact small_le hh.2, fun q hq => ?_⟩
    have s1 := s.nxt N1
    have o1 := o.nxt N1
    obtain ⟨P, S, l, t, e1, e2, y, f⟩ := s1.focus (i := i) (o := τ[i]) (List.getElem?_eq_getElem hh.1)
    have M := Mv.mine (O := .lst u) hq
    have T := Own.fresh (O := .lst u) N1.rel o1 hq e1 s1.z
    have nq : q ∉ L := fun h => N1.rel.nz hq (s1.z q h)
    exact p1 _ _ _ T rfl (f _ [q] _ _ M (fun a h => by
      have ha : a ∈ L := by rw [e1]; simp at h ⊢; rcases h with h | h <;> simp [h]
      exact ⟨.inl (s1.z a ha), upd_ne fun y => nq (by rw [← y]; exact ha)⟩) (.mL (.inr rfl) upd_same (x1.mono M)))
  · rw [if_neg hh] at p1; exact p1.elim
/-- the list in a slot, lengthened or otherwise changed -/
theorem RS.turnL {xs : List AV} (r : Rel G c) (o : Own zs L c) (s : RS G B c L τ σ) (e : τ[i]? = some (some (.mL xs))) : ∃ a us, σ[i]? = some (some (.ref a)) ∧ c.H a = some (.lst us) ∧ RVs G c xs us ∧
    ∀ xs' us', RVs G c xs' us' → Stp G zs L c L { c with H := upd c.H a (.lst us') } ∧ RS G B { c with H := upd c.H a (.lst us') } L (τ.set i (some (.mL xs'))) (σ.set i (some (.ref a))) := by
  obtain ⟨P, S, l, t, e1, e2, y, f⟩ := s.focus e
  cases y with
  | val q => cases q
  | @mL a _ us z1 ea x =>
    have nd := o.nd
    rw [e1] at nd
    have aL : a ∈ L := by rw [e1]; simp
    have np : ∀ b, b ∈ P ++ S → b ≠ a := fun b hb y => by
      have nd' := (List.perm_middle (a := a) (l₁ := P) (l₂ := S)).nodup_iff.mp (by simpa using nd)
      rw [y] at hb
      exact (List.nodup_cons.mp nd').1 hb
    refine ⟨a, us, e2, ea, x, fun xs' us' x' => ?_⟩
    have M := Mv.turn (O := .lst us') z1
    refine ⟨⟨r.turn z1, M, ⟨o.low, o.dis, o.nd⟩, fun b zb => upd_ne fun y => o.dis a aL (by rw [← y]; exact zb), fun _ h => .inl h⟩, ?_⟩
    rw [e1]
    exact f _ [a] _ _ M (fun b hb => ⟨s.z b (by rw [e1]; simp at hb ⊢; rcases hb with h | h <;> simp [h]), upd_ne (np b hb)⟩) (.mL z1 upd_same (x'.mono M))
theorem is_app (i : Nat) {q1 apos cpos : Pos} (he : IE G B W X e m) (hN : X.N[i]? = some x := by rfl) (hv : Vis X.env.scope x := by first | exact Or.inl rfl | exact Or.inr (Or.inl rfl)) (hd : (x == ("__debug__" : Str)) = false := by decide)
    (hcd : (x == ("__classdict__" : Str)) = false := by decide) (hs : swapsWith (.Call (.Attribute (.Name x q1) "append" apos) [e] [] cpos) none pos.line X.env = pure false := by rfl)
    (hbase : attributeBase (.Name x q1) "append" X.env (eval (.Name x q1) X.env) = eval (.Name x q1) X.env := by rfl)
    (hfew : ((backTo cpos (starEach [e] X.env)).all (fun x => !x.1) && (backToKw cpos (keywordEach [] X.env)).all (fun x => x.1.isSome)
      && decide ([e].length + ([] : List Keyword).length + (if ([] : List Keyword).isEmpty then 0 else 1) < 30)) = true := by rfl)
    (hline : (apos.endLine == cpos.line) = true := by rfl) (hse : starEach [e] X.env = (false, eval e X.env) :: starEach [] X.env := by rfl) (hplain : (backTo cpos (starEach [] X.env)).any (·.1) = false := by rfl) :
    IS G B zs W X (.Expr (.Call (.Attribute (.Name x q1) "append" apos) [e] [] cpos) pos) (sApp i m) := by
  refine PS.imp (ps_expr (pe_bm PySem.F.plainAttrs_list PySem.F.slot_list_append PySem.F.type_list_append mt_append (pv i hN hv hd hcd) (pa_cons (es := []) he pa_nil hse) hbase hfew hline hse hplain) hs) fun D σ H ⟨c, τ, L, eH, r, o, s, p⟩ => ?_
  subst eH
  unfold sApp at p
  split at p
  · rename_i xs e
    obtain ⟨a, us, e2, ea, x, _⟩ := RS.turnL r o s e
    refine ⟨_, e2, .inl ⟨rfl, us, .inl (.inl ea)⟩, c, τ, L, rfl, r, s, (PostS.bindS (R := RV G) o s p).imp fun u H1 ⟨c1, v, e1, N1, x1, p1⟩ => ?_⟩
    subst e1
    by_cases hl : small (xs.length + 1) = true
    · rw [if_pos hl] at p1
      obtain ⟨a', us', e2', ea', x', f⟩ := RS.turnL N1.rel (o.nxt N1) (s.nxt N1) e
      have aa : V.ref a' = V.ref a := by
        have z := e2'.symm.trans e2
        exact Option.some.inj (Option.some.inj z)
      cases aa
      refine ⟨a, us', u, rfl, rfl, ea', by rw [← x'.length]; exact Nat.lt_of_lt_of_le (Nat.lt_succ_self _) (small_le hl), ?_⟩
      have ap : RVs G c1 (xs ++ [v]) (us' ++ [u]) := RVs.append x' (.cons x1 .nil)
      obtain ⟨T, s'⟩ := f _ _ ap
      rw [set_self e2] at s'
      exact p1 _ L _ T rfl s'
    · rw [if_neg hl] at p1; exact p1.elim
  · exact p.elim
/-- what a slot alone holds becomes a value -/
theorem RS.thaw1 (r : Rel G c) (o : Own zs L c) (s : RS G B c L τ σ) {v : AV} (e : τ[i]? = some (some v)) : ∃ L' Z', (∀ a, Z' a → c.Z a) ∧ Stp G zs L c L' { c with Z := Z' } ∧ RS G B { c with Z := Z' } L' (τ.set i (some (thaw v))) σ := by
  obtain ⟨P, S, l, t, e1, e2, y, f⟩ := s.focus e
  have stay : ∀ (v' : AV), thaw v' = v' → v = v' → ∃ L' Z', (∀ a, Z' a → c.Z a) ∧ Stp G zs L c L' { c with Z := Z' } ∧ RS G B { c with Z := Z' } L' (τ.set i (some (thaw v))) σ := fun v' h1 h2 => by
    refine ⟨L, c.Z, fun _ z => z, .refl r o, ?_⟩
    rw [h2, h1, ← h2, set_self e]
    exact s
  have nd := o.nd
  rw [e1] at nd
  have go : ∀ {a : Addr} {w : AV}, l = [a] → c.Z a → (RV G { c with Z := fun b => c.Z b ∧ b ≠ a } w (.ref a)) → t = some (.ref a) → thaw v = w → ∃ L' Z', (∀ a, Z' a → c.Z a) ∧ Stp G zs L c L' { c with Z := Z' } ∧ RS G B { c with Z := Z' } L' (τ.set i (some (thaw v))) σ := fun {a w} hl z1 x ht hw => by
    subst hl
    subst ht
    have nd' := (List.perm_middle (a := a) (l₁ := P) (l₂ := S)).nodup_iff.mp (by simpa using nd)
    have np : ∀ b, b ∈ P ++ S → b ≠ a := fun b hb y => by
      rw [y] at hb
      exact (List.nodup_cons.mp nd').1 hb
    have aL : a ∈ L := by rw [e1]; simp
    have sub : ∀ b, b ∈ P ++ S → b ∈ L := fun b h => by rw [e1]; simp at h ⊢; rcases h with h | h <;> simp [h]
    have M : Mv c { c with Z := fun b => c.Z b ∧ b ≠ a } := Mv.fewer fun _ z => z.1
    have q := f { c with Z := fun b => c.Z b ∧ b ≠ a } [] (some w) (some (.ref a)) M (fun b hb => ⟨⟨s.z b (sub b hb), np b hb⟩, rfl⟩) (.val x)
    rw [set_self e2] at q
    rw [hw]
    refine ⟨P ++ [] ++ S, fun b => c.Z b ∧ b ≠ a, fun _ z => z.1, ⟨r.fewer fun _ z => z.1, M, ⟨fun b z => ⟨o.low b z, fun y => o.dis a aL (by rw [← y]; exact z)⟩, fun b hb => o.dis b (sub b (by simpa using hb)), ?_⟩, fun _ _ => rfl, fun b hb => .inl (sub b (by simpa using hb))⟩, q⟩
    simpa using (List.nodup_cons.mp nd').2
  have M1 : ∀ a, Mv c { c with Z := fun b => c.Z b ∧ b ≠ a } := fun a => Mv.fewer fun _ z => z.1
  cases y with
  | @mL a xs us z1 ea x => exact go rfl z1 (.fl (.inl ea) ⟨(r.zok a z1).1, fun z => z.2 rfl⟩ (x.mono (M1 a))) rfl rfl
  | @mD a xs us z1 ea x => exact go rfl z1 (.fd (.inl ea) ⟨(r.zok a z1).1, fun z => z.2 rfl⟩ (x.mono (M1 a))) rfl rfl
  | mI _ _ _ => exact stay _ rfl rfl
  | mE _ => exact stay _ rfl rfl
  | val q =>
    cases q with
    | _ => exact stay _ rfl rfl
/-- a slot's list or dict is a value from here on -/
theorem iss_frz {sts : List Stmt} {ns : MS} (i : Nat) (h : ISs G B zs W X sts ns) : ISs G B zs W X sts (sSeq (sFrz i) ns) := PSs.imp h fun D σ H ⟨c, τ, L, eH, r, o, s, p⟩ => by
  unfold sSeq sFrz at p
  cases e : τ[i]? with
  | none => rw [e] at p; exact p.elim
  | some ov =>
    cases ov with
    | none => rw [e] at p; exact p.elim
    | some v =>
      rw [e] at p
      obtain ⟨L', Z', hz, T, s'⟩ := RS.thaw1 r o s e
      exact ⟨{ c with Z := Z' }, _, L', eH, T.rel, T.own, s', PostS.trans T p⟩
/-- all slots' lists are values -/
theorem RS.thawAll (r : RS G B c L τ σ) : ∀ {c' : Cfg}, Mv c c' → (∀ a, a ∈ L → Frz c' a ∧ c'.H a = c.H a) → (∀ a, c'.Z a → c.Z a) → noI τ = true → RS G B c' [] (τ.map fun o => o.map thaw) σ := by
  induction r with
  | nil => intro c' _ _ _ _; exact .nil
  | cons y _ ih =>
    intro c' M hf hz hn
    unfold noI at hn
    rw [List.all_cons, Bool.and_eq_true] at hn
    refine RS.cons (l := []) ?_ (ih M (fun a h => hf a (List.mem_append_right _ h)) hz hn.2)
    cases y with
    | skip => exact .skip
    | val q =>
      cases q with
      | tup q1 q2 q3 => exact .val ((RV.tup q1 q2 q3).mono M)
      | tupK q1 q2 => exact .val ((RV.tupK q1 q2).mono M)
      | fl q1 q2 q3 => exact .val ((RV.fl q1 q2 q3).mono M)
      | flK q1 q2 => exact .val ((RV.flK q1 q2).mono M)
      | fd q1 q2 q3 => exact .val ((RV.fd q1 q2 q3).mono M)
      | obj q1 q2 q3 => exact .val ((RV.obj q1 q2 q3).mono M)
      | ref q1 => exact .val ((RV.ref q1).mono M)
      | str q1 => exact .val (.str q1)
      | non => exact .val .non
      | bl => exact .val .bl
      | int => exact .val .int
      | ty => exact .val .ty
      | cls => exact .val .cls
      | fn => exact .val .fn
      | kd => exact .val .kd
    | @mL a xs us z1 ea x => exact .val (.fl (.inl ((hf a (by simp)).2.trans ea)) (hf a (by simp)).1 (x.mono M))
    | @mD a xs us z1 ea x => exact .val (.fd (.inl ((hf a (by simp)).2.trans ea)) (hf a (by simp)).1 (x.mono M))
    | mI _ _ _ => exact absurd hn.1 (by simp)
    | mE x => exact .mE (x.mono M)
end
end PI
/-! PIo: operations on plain values. -/
namespace PI
open PySem PySem.Spec PyProof.Rows L2
/-! ### arithmetic -/
def strS (n : Nat) : Bool := decide (n ≤ 16777216)
def kAdd (v w : AV) (h : AH) : Option (AV × AH) := match v, w with
  | .int i, .int j => some (.int (i + j), h)
  | .str x, .str y => if small (x.length + y.length) then some (.str (x ++ y), h) else none
  | .fl xs, .fl ys => if small (xs.length + ys.length) then some (.fl (xs ++ ys), h) else none
  | .tup xs, .tup ys => if small (xs.length + ys.length) && !xs.isEmpty then some (.tup (xs ++ ys), h) else none
  | _, _ => none
def kSub (v w : AV) (h : AH) : Option (AV × AH) := match v, w with
  | .int i, .int j => some (.int (i - j), h)
  | _, _ => none
def mulOk (i j : Int) : Bool := decide ((-18446744073709551616 < i ∧ i < 18446744073709551616) ∨ (-18446744073709551616 < j ∧ j < 18446744073709551616))
def kMul (v w : AV) (h : AH) : Option (AV × AH) := match v, w with
  | .int i, .int j => if mulOk i j then some (.int (i * j), h) else none
  | .str x, .int n => if decide (0 ≤ n ∧ n ≤ 10000 ∧ x.length ≤ 1000) then some (.str (Txt.mul x n), h) else none
  | _, _ => none
def kFdiv (v w : AV) (h : AH) : Option (AV × AH) := match v, w with
  | .int i, .int j => if decide (0 < j ∧ j < 10 ^ 60) then some (.int (i / j), h) else none
  | _, _ => none
def kMod (v w : AV) (h : AH) : Option (AV × AH) := match v, w with
  | .int i, .int j => if decide (0 < j) then some (.int (i % j), h) else none
  | _, _ => none
def kPow (v w : AV) (h : AH) : Option (AV × AH) := match v, w with
  | .int i, .int j => if decide (0 ≤ j ∧ j ≤ 1000000 ∧ -18446744073709551616 < i ∧ i < 18446744073709551616) then some (.int (i ^ j.toNat), h) else none
  | _, _ => none
def kNeg (v : AV) (h : AH) : Option (AV × AH) := match v with
  | .int i => some (.int (-i), h)
  | _ => none
section
variable {G : Gx} {X : Cx} {c c' : Cfg}
theorem strOk_app {x y : Str} (h1 : PyData.strOk x = true) (h2 : PyData.strOk y = true) : PyData.strOk (x ++ y) = true := by
  unfold PyData.strOk at *
  show ((x.cps ++ y.cps).all _) = true
  rw [Array.all_append, h1, h2]
  rfl
/-- lists, wherever they stand -/
def rCatL (K : PySem.W.Frag) : R2 := fun x y H Q => ∃ l b xs zs, x = .ref l ∧ y = .ref b ∧ SqL K H l xs ∧ SqL K H b zs ∧ xs.length + zs.length ≤ sizeLine ∧ ∀ p, H p = none → Q (.ref p) (upd H p (.lst (xs ++ zs)))
theorem op_catL : OpR X (binaryOp .Add) (rCatL X.K) := by
  intro pins s σ H x y v u Q I rx ry h
  obtain ⟨l, b, xs, zs, rfl, rfl, hH, hB, hz, q⟩ := h
  cases rx
  cases ry
  obtain ⟨its, r, pl, _⟩ := I.list hH
  obtain ⟨its2, r2, pl2, _⟩ := I.list hB
  have h1 := r.length
  have h2 := r2.length
  obtain ⟨⟨cls, dd, data, sl⟩, n1, ho, hc, hdd, hd⟩ := pl
  obtain ⟨⟨cls2, dd2, data2, sl2⟩, n2, ho2, hc2, hdd2, hd2⟩ := pl2
  simp only at hc hdd hd hc2 hdd2 hd2
  subst hc hdd hd hc2 hdd2 hd2
  have ea : its.toArray ++ its2.toArray = (its ++ its2).toArray := by simp
  refine concat_meets ⟨_, ho, rfl⟩ ⟨_, ho2, rfl⟩ noFill_list_add seq_list_add PySem.F.slot_list_add PySem.F.entry_list_add (PySem.F.args_list_add_2 _ _) (list_addW l b its.toArray its2.toArray n1 n2 none none sl sl2 (by rw [List.size_toArray, List.size_toArray]; omega)) ⟨ho, ho2, ?_⟩
  rw [ea]
  exact ⟨.ref _, _, I.lnew (t' := s.toks) (r.append r2) (by rw [List.length_append]; omega), rfl, q _ I.fresh⟩
theorem RVs.nil_iff {xs : List AV} {us : List V} (r : RVs G c xs us) : us = [] ↔ xs = [] := by
  cases r with
  | nil => simp
  | cons _ _ => simp
/-- the reading of a list value -/
theorem rv_list {K : PySem.W.Frag} (hK : K = G.K) {xs : List AV} {u : V} (x : RV G c (.fl xs) u) : ∃ a us, u = .ref a ∧ SqL K c.H a us ∧ RVs G c xs us := by
  subst hK
  cases x with
  | fl r f y => exact ⟨_, _, rfl, .inl r, y⟩
  | flK k y => exact ⟨_, _, rfl, .inr k, y⟩
theorem rv_tup {K : PySem.W.Frag} (hK : K = G.K) {xs : List AV} {u : V} (x : RV G c (.tup xs) u) : ∃ a us, u = .ref a ∧ SqT K c.H a us ∧ RVs G c xs us := by
  subst hK
  cases x with
  | tup r f y => exact ⟨_, _, rfl, .inl r, y⟩
  | tupK k y => exact ⟨_, _, rfl, .inr k, y⟩
/-- a value in hand -/
theorem post_fin {Q : VK} {v : AV} {u : V} (r : Rel G c) (p : PostO G c Q (some (v, c.h))) (x : RV G c v u) : Q u c.H := p c u (.refl r) rfl x
theorem post_lst {Q : VK} {vs : List AV} {us : List V} (r : Rel G c) (p : PostO G c Q (some (.fl vs, c.h))) (x : RVs G c vs us) : ∀ q, c.H q = none → Q (.ref q) (upd c.H q (.lst us)) := fun q hq =>
  have N := Nxt.temp (O := .lst us) r hq
  p _ _ N rfl (.fl (.inl upd_same) (r.frz hq) (x.mono N.mv))
theorem post_tup {Q : VK} {vs : List AV} {us : List V} (r : Rel G c) (p : PostO G c Q (some (.tup vs, c.h))) (x : RVs G c vs us) : ∀ q, c.H q = none → Q (.ref q) (upd c.H q (.tup us)) := fun q hq =>
  have N := Nxt.temp (O := .tup us) r hq
  p _ _ N rfl (.tup (.inl upd_same) (r.frz hq) (x.mono N.mv))
def rAddA (K : PySem.W.Frag) : R2 := fun x y H Q => (((∃ i j, x = .int i ∧ y = .int j ∧ Q (.int (i + j)) H) ∨ (∃ i j, x = .str i ∧ y = .str j ∧ i.length + j.length ≤ sizeLine ∧ Q (.str (i ++ j)) H)) ∨ rCatL K x y H Q) ∨ rCatT K x y H Q
theorem op_addA : OpR X (binaryOp .Add) (rAddA X.K) := OpR.or (OpR.or (OpR.or op_add op_add_str) op_catL) op_catT
theorem ao_add (hK : X.K = G.K) : AO2 G kAdd (rAddA X.K) := fun c v w u x Q r xv xw p => by
  have sl : ∀ {n : Nat}, small n = true → n ≤ sizeLine := small_le
  cases v with
  | int i =>
    cases w with
    | int j =>
      cases xv; cases xw
      exact .inl (.inl (.inl ⟨i, j, rfl, rfl, post_fin r p .int⟩))
    | _ => exact p.elim
  | str i =>
    cases w with
    | str j =>
      cases xv with
      | str k1 =>
        cases xw with
        | str k2 =>
          unfold kAdd at p
          simp only at p
          by_cases e : small (i.length + j.length) = true
          · rw [if_pos e] at p
            exact .inl (.inl (.inr ⟨i, j, rfl, rfl, sl e, post_fin r p (.str (strOk_app k1 k2))⟩))
          · rw [if_neg e] at p; exact p.elim
    | _ => exact p.elim
  | fl xs =>
    cases w with
    | fl ys =>
      unfold kAdd at p
      simp only at p
      by_cases e : small (xs.length + ys.length) = true
      · rw [if_pos e] at p
        obtain ⟨a, us, rfl, q1, y1⟩ := rv_list hK xv
        obtain ⟨b, us2, rfl, q2, y2⟩ := rv_list hK xw
        exact .inl (.inr ⟨a, b, us, us2, rfl, rfl, q1, q2, by rw [← y1.length, ← y2.length]; exact sl e, post_lst r p (RVs.append y1 y2)⟩)
      · rw [if_neg e] at p; exact p.elim
    | _ => exact p.elim
  | tup xs =>
    cases w with
    | tup ys =>
      unfold kAdd at p
      simp only at p
      by_cases e : (small (xs.length + ys.length) && !xs.isEmpty) = true
      · rw [if_pos e] at p
        rw [Bool.and_eq_true] at e
        obtain ⟨a, us, rfl, q1, y1⟩ := rv_tup hK xv
        obtain ⟨b, us2, rfl, q2, y2⟩ := rv_tup hK xw
        refine .inr ⟨a, b, us, us2, rfl, rfl, q1, q2, fun z => ?_, by rw [← y1.length, ← y2.length]; exact sl e.1, fun z => ?_, fun _ => post_tup r p (RVs.append y1 y2)⟩
        · have := y1.nil_iff.mp z
          rw [this] at e
          exact absurd e.2 (by simp)
        · have h2 := y2.nil_iff.mp z
          subst h2
          rw [List.append_nil] at p
          exact post_fin r p xv
      · rw [if_neg e] at p; exact p.elim
    | _ => exact p.elim
  | _ => cases w <;> exact p.elim
theorem ao_sub : AO2 G kSub (rI0 fun i j => .int (i - j)) := fun c v w u x Q r xv xw p => by
  cases v with
  | int i =>
    cases w with
    | int j => cases xv; cases xw; exact ⟨i, j, rfl, rfl, post_fin r p .int⟩
    | _ => exact p.elim
  | _ => cases w <;> exact p.elim
def rMulA : R2 := fun x y H Q => (rI CMul (fun i j => .int (i * j)) x y H Q) ∨ (∃ z n, x = .str z ∧ y = .int n ∧ MulOk z n ∧ Q (.str (Txt.mul z n)) H)
theorem op_mulA : OpR X (binaryOp .Mult) rMulA := by
  refine OpR.or op_mul ?_
  intro pins s σ H x y v u Q I rx ry h
  obtain ⟨z, n, rfl, rfl, ok, q⟩ := h
  obtain ⟨t, rfl⟩ := rx
  obtain ⟨t', rfl⟩ := ry
  exact SB.mul ok fun t2 k => ⟨.str _, H, I.tok _, ⟨_, rfl⟩, q⟩
theorem strOk_mul {x : Str} {n : Int} (h1 : PyData.strOk x = true) : PyData.strOk (Txt.mul x n) = true := by
  unfold Txt.mul
  split
  · decide +kernel
  · split
    · exact h1
    · generalize n.toNat = k
      have key : ∀ (k : Nat) (acc : Array Nat), acc.all (· < 0x110000) = true → ((List.replicate k x.cps).foldl (· ++ ·) acc).all (· < 0x110000) = true := by
        intro k
        induction k with
        | zero => intro acc h; exact h
        | succ k ih =>
          intro acc h
          rw [List.replicate_succ, List.foldl_cons]
          exact ih _ (by rw [Array.all_append, h]; exact h1)
      exact key k #[] (by simp)
theorem ao_mul : AO2 G kMul rMulA := fun c v w u x Q r xv xw p => by
  cases v with
  | int i =>
    cases w with
    | int j =>
      cases xv; cases xw
      unfold kMul at p
      simp only at p
      by_cases e : mulOk i j = true
      · rw [if_pos e] at p
        have e' := of_decide_eq_true e
        exact .inl ⟨i, j, rfl, rfl, by unfold CMul; omega, post_fin r p .int⟩
      · rw [if_neg e] at p; exact p.elim
    | _ => exact p.elim
  | str z =>
    cases w with
    | int n =>
      cases xv with
      | str k =>
        cases xw
        unfold kMul at p
        simp only at p
        by_cases e : decide (0 ≤ n ∧ n ≤ 10000 ∧ z.length ≤ 1000) = true
        · rw [if_pos e] at p
          have e' := of_decide_eq_true e
          exact .inr ⟨z, n, rfl, rfl, mulOk_of 1000 10000 e'.2.2 e'.2.1 (by omega) (by decide) (by decide), post_fin r p (.str (strOk_mul k))⟩
        · rw [if_neg e] at p; exact p.elim
    | _ => exact p.elim
  | _ => cases w <;> exact p.elim
theorem ao_fdiv : AO2 G kFdiv (rI CDivW fun i j => .int (i / j)) := fun c v w u x Q r xv xw p => by
  cases v with
  | int i =>
    cases w with
    | int j =>
      cases xv; cases xw
      unfold kFdiv at p
      simp only at p
      by_cases e : decide (0 < j ∧ j < 10 ^ 60) = true
      · rw [if_pos e] at p
        have e' := of_decide_eq_true e
        refine ⟨i, j, rfl, rfl, wide_div (b := 200) e'.1 ?_ (by decide) (by decide), post_fin r p .int⟩
        have h2 : j < 2 ^ 200 := Int.lt_trans e'.2 (by decide)
        omega
      · rw [if_neg e] at p; exact p.elim
    | _ => exact p.elim
  | _ => cases w <;> exact p.elim
theorem ao_mod : AO2 G kMod (rI (fun _ j => 0 < j) fun i j => .int (i % j)) := fun c v w u x Q r xv xw p => by
  cases v with
  | int i =>
    cases w with
    | int j =>
      cases xv; cases xw
      unfold kMod at p
      simp only at p
      by_cases e : decide (0 < j) = true
      · rw [if_pos e] at p
        exact ⟨i, j, rfl, rfl, of_decide_eq_true e, post_fin r p .int⟩
      · rw [if_neg e] at p; exact p.elim
    | _ => exact p.elim
  | _ => cases w <;> exact p.elim
theorem ao_pow : AO2 G kPow (rI CPow fun i j => .int (i ^ j.toNat)) := fun c v w u x Q r xv xw p => by
  cases v with
  | int i =>
    cases w with
    | int j =>
      cases xv; cases xw
      unfold kPow at p
      simp only at p
      by_cases e : decide (0 ≤ j ∧ j ≤ 1000000 ∧ -18446744073709551616 < i ∧ i < 18446744073709551616) = true
      · rw [if_pos e] at p
        have e' := of_decide_eq_true e
        exact ⟨i, j, rfl, rfl, ⟨e'.1, e'.2.1, by omega⟩, post_fin r p .int⟩
      · rw [if_neg e] at p; exact p.elim
    | _ => exact p.elim
  | _ => cases w <;> exact p.elim
theorem ao_neg : AO1 G kNeg (rU fun i => .int (-i)) := fun c v u Q r xv p => by
  cases v with
  | int i => cases xv; exact ⟨i, rfl, post_fin r p .int⟩
  | _ => exact p.elim
/-! ### comparisons -/
/-- plain data, nested at most so deep -/
def dat : Nat → AV → Option PyData
  | _, .non => some .none
  | _, .bl b => some (.bool b)
  | _, .int i => some (.int i)
  | _, .str x => some (.str x)
  | n + 1, .tup xs => (xs.mapM (dat n)).map .tuple
  | n + 1, .fl xs => (xs.mapM (dat n)).map .list
  | _, _ => none
def kEq (v w : AV) (h : AH) : Option (AV × AH) := match dat 12 v, dat 12 w with
  | some d, some e => some (.bl (PyData.eqv d e), h)
  | _, _ => none
def kNe (v w : AV) (h : AH) : Option (AV × AH) := match dat 12 v, dat 12 w with
  | some d, some e => some (.bl (!PyData.eqv d e), h)
  | _, _ => none
theorem depthAll_le {n : Nat} : ∀ {ds : List PyData}, (∀ d, d ∈ ds → d.depth ≤ n) → PyData.depthAll ds ≤ n
  | [], _ => by simp [PyData.depthAll]
  | d :: ds, h => by
    have h1 := h d (by simp)
    have h2 := depthAll_le (ds := ds) fun x hx => h x (by simp [hx])
    simp only [PyData.depthAll]
    omega
theorem canAll {ds : List PyData} : (∀ d, d ∈ ds → PyData.canLay0 d = true) → PyData.canLayAll0 ds = true := by
  induction ds with
  | nil => intro _; rfl
  | cons d ds ih => intro h; simp [PyData.canLayAll0, h d (by simp), ih fun x hx => h x (by simp [hx])]
theorem dat_ok (hK : X.K = G.K) : ∀ (n : Nat) (v : AV) (u : V) (d : PyData), dat n v = some d → RV G c v u → Dp X.K c.H u d ∧ PyData.canLay0 d = true ∧ d.depth ≤ n := by
  intro n
  have leaf : ∀ (n : Nat) (v : AV) (u : V) (d : PyData), (∀ xs, v ≠ .tup xs) → (∀ xs, v ≠ .fl xs) → dat n v = some d → RV G c v u → Dp X.K c.H u d ∧ PyData.canLay0 d = true ∧ d.depth ≤ n := by
    intro n v u d h1 h2 e x
    cases x with
    | non => cases n <;> (simp only [dat] at e; cases e; exact ⟨.non, rfl, Nat.zero_le _⟩)
    | bl => cases n <;> (simp only [dat] at e; cases e; exact ⟨.bl _, rfl, Nat.zero_le _⟩)
    | int => cases n <;> (simp only [dat] at e; cases e; exact ⟨.int _, rfl, Nat.zero_le _⟩)
    | str k => cases n <;> (simp only [dat] at e; cases e; exact ⟨.str _, k, Nat.zero_le _⟩)
    | tup => exact absurd rfl (h1 _)
    | tupK => exact absurd rfl (h1 _)
    | fl => exact absurd rfl (h2 _)
    | flK => exact absurd rfl (h2 _)
    | _ => cases n <;> (simp only [dat] at e; cases e)
  induction n with
  | zero =>
    intro v u d e x
    refine leaf 0 v u d (fun xs h => ?_) (fun xs h => ?_) e x
    · subst h; simp only [dat] at e; cases e
    · subst h; simp only [dat] at e; cases e
  | succ n ih =>
    have all : ∀ (xs : List AV) (us : List V) (ds : List PyData), xs.mapM (dat n) = some ds → RVs G c xs us → DpAll X.K c.H us ds ∧ ∀ d, d ∈ ds → PyData.canLay0 d = true ∧ d.depth ≤ n := by
      intro xs
      induction xs with
      | nil => intro us ds e x; cases x; simp at e; subst e; exact ⟨.nil, fun d h => by simp at h⟩
      | cons y ys ihx =>
        intro us ds e x
        cases x with
        | cons x xr =>
          simp only [List.mapM_cons] at e
          cases q : dat n y with
          | none => rw [q] at e; cases e
          | some d =>
            rw [q] at e
            cases q2 : ys.mapM (dat n) with
            | none => rw [q2] at e; cases e
            | some ds2 =>
              rw [q2] at e
              cases e
              obtain ⟨a1, a2, a3⟩ := ih _ _ _ q x
              obtain ⟨b1, b2⟩ := ihx _ _ q2 xr
              exact ⟨.cons a1 b1, fun d' h => by rcases List.mem_cons.mp h with h | h; (rw [h]; exact ⟨a2, a3⟩); exact b2 d' h⟩
    intro v u d e x
    have seqs : ∀ {xs : List AV} {us : List V} {mk : List PyData → PyData} {ds : List PyData}, xs.mapM (dat n) = some ds → RVs G c xs us → DpAll X.K c.H us ds ∧ PyData.canLayAll0 ds = true ∧ PyData.depthAll ds ≤ n := fun {xs us mk ds} e x => by
      obtain ⟨a1, a2⟩ := all xs us ds e x
      exact ⟨a1, canAll fun d h => (a2 d h).1, depthAll_le fun d h => (a2 d h).2⟩
    cases v with
    | tup xs =>
      simp only [dat] at e
      cases q : xs.mapM (dat n) with
      | none => rw [q] at e; cases e
      | some ds =>
        rw [q] at e
        cases e
        obtain ⟨a, us, rfl, q1, y⟩ := rv_tup hK x
        obtain ⟨a1, a2, a3⟩ := seqs (mk := .tuple) q y
        exact ⟨.tup q1 a1, by simpa [PyData.canLay0] using a2, by simp only [PyData.depth]; omega⟩
    | fl xs =>
      simp only [dat] at e
      cases q : xs.mapM (dat n) with
      | none => rw [q] at e; cases e
      | some ds =>
        rw [q] at e
        cases e
        obtain ⟨a, us, rfl, q1, y⟩ := rv_list hK x
        obtain ⟨a1, a2, a3⟩ := seqs (mk := .list) q y
        exact ⟨.lst q1 a1, by simpa [PyData.canLay0] using a2, by simp only [PyData.depth]; omega⟩
    | _ => exact leaf (n + 1) _ u d (fun xs h => by cases h) (fun xs h => by cases h) e x
theorem shaped_of {d : PyData} {n : Nat} (h1 : PyData.canLay0 d = true) (h2 : d.depth ≤ n) (hn : n ≤ 64 := by decide) : SeqAt.shaped d = true := by
  unfold SeqAt.shaped
  rw [h1, Bool.true_and]
  exact decide_eq_true (Nat.le_trans h2 hn)
theorem ao_eq (hK : X.K = G.K) : AO2 G kEq (rEqD X.K) := fun c v w u x Q r xv xw p => by
  unfold kEq at p
  cases e1 : dat 12 v with
  | none => rw [e1] at p; exact p.elim
  | some d =>
    cases e2 : dat 12 w with
    | none => rw [e1, e2] at p; exact p.elim
    | some e =>
      rw [e1, e2] at p
      obtain ⟨a1, a2, a3⟩ := dat_ok hK 12 v u d e1 xv
      obtain ⟨b1, b2, b3⟩ := dat_ok hK 12 w x e e2 xw
      exact ⟨d, e, a1, b1, shaped_of a2 a3, shaped_of b2 b3, post_fin r p .bl⟩
theorem ao_ne (hK : X.K = G.K) : AO2 G kNe (rNeD X.K) := fun c v w u x Q r xv xw p => by
  unfold kNe at p
  cases e1 : dat 12 v with
  | none => rw [e1] at p; exact p.elim
  | some d =>
    cases e2 : dat 12 w with
    | none => rw [e1, e2] at p; exact p.elim
    | some e =>
      rw [e1, e2] at p
      obtain ⟨a1, a2, a3⟩ := dat_ok hK 12 v u d e1 xv
      obtain ⟨b1, b2, b3⟩ := dat_ok hK 12 w x e e2 xw
      exact ⟨d, e, a1, b1, shaped_of a2 a3, shaped_of b2 b3, post_fin r p .bl⟩
def kCmp (f : Int → Int → Bool) (v w : AV) (h : AH) : Option (AV × AH) := match v, w with
  | .int i, .int j => some (.bl (f i j), h)
  | _, _ => none
def kLt := kCmp fun i j => decide (i < j)
def kLe := kCmp fun i j => decide (i ≤ j)
def kGt := kCmp fun i j => decide (j < i)
def kGe := kCmp fun i j => decide (j ≤ i)
theorem ao_cmp (f : Int → Int → Bool) : AO2 G (kCmp f) (rI0 fun i j => .bl (f i j)) := fun c v w u x Q r xv xw p => by
  cases v with
  | int i =>
    cases w with
    | int j => cases xv; cases xw; exact ⟨i, j, rfl, rfl, post_fin r p .bl⟩
    | _ => exact p.elim
  | _ => cases w <;> exact p.elim
def isNone : AV → Bool
  | .non => true
  | _ => false
def kIsN (v w : AV) (h : AH) : Option (AV × AH) := match w with
  | .non => some (.bl (isNone v), h)
  | _ => none
def kNotN (v w : AV) (h : AH) : Option (AV × AH) := match w with
  | .non => some (.bl (!isNone v), h)
  | _ => none
theorem isNone_rv {v : AV} {u : V} (x : RV G c v u) : decide (u = .non) = isNone v := by
  cases x <;> simp [isNone]
theorem ao_isN : AO2 G kIsN (fun x y H Q => y = .non ∧ Q (.bl (decide (x = .non))) H) := fun c v w u x Q r xv xw p => by
  cases w with
  | non => cases xw; exact ⟨rfl, by rw [isNone_rv xv]; exact post_fin r p .bl⟩
  | _ => exact p.elim
theorem ao_notN : AO2 G kNotN (fun x y H Q => y = .non ∧ Q (.bl (!decide (x = .non))) H) := fun c v w u x Q r xv xw p => by
  cases w with
  | non => cases xw; exact ⟨rfl, by rw [isNone_rv xv]; exact post_fin r p .bl⟩
  | _ => exact p.elim
end
end PI
/-! PIp: in, len, subscripts, slices, dicts, isinstance, walks. -/
namespace PI
open PySem PySem.Spec PyProof.Rows L2
def eqA : AV → AV → Bool
  | .non, .non => true
  | .bl a, .bl b => a == b
  | .bl a, .int b => (if a then 1 else 0) == b
  | .int a, .bl b => a == (if b then 1 else 0)
  | .int a, .int b => a == b
  | .str a, .str b => a == b
  | _, _ => false
def inA (v : AV) (xs : List AV) : Bool := xs.any fun y => eqA y v
def kInB (neg : Bool) (v w : AV) (h : AH) : Option (AV × AH) := match seqOf w with
  | some xs => if flatA v && xs.all flatA then some (.bl (if neg then !inA v xs else inA v xs), h) else none
  | none => none
def kIn := kInB false
def kNotIn := kInB true
/-- a sign in a text -/
def kInS (neg : Bool) (v w : AV) (h : AH) : Option (AV × AH) := match v, w with
  | .str x, .str z => match x.cps.toList with
    | [k] => some (.bl (if neg then !decide (k ∈ z.cps.toList) else decide (k ∈ z.cps.toList)), h)
    | _ => none
  | _, _ => none
def kLen (vs : List AV) (h : AH) : Option (AV × AH) := match vs with
  | [.tup xs] => some (.int xs.length, h)
  | [.fl xs] => some (.int xs.length, h)
  | [.str x] => if strS x.length then some (.int x.length, h) else none
  | [.ref n] => match h[n]? with
    | some (some (.lst xs)) => some (.int xs.length, h)
    | _ => none
  | _ => none
def kIx (v w : AV) (h : AH) : Option (AV × AH) := match v, w with
  | .tup xs, .int i => (atI xs i).map fun v => (v, h)
  | .fl xs, .int i => (atI xs i).map fun v => (v, h)
  | .ref n, .int i => match h[n]? with
    | some (some (.lst xs)) => (atI xs i).map fun v => (v, h)
    | _ => none
  | .str z, .int i => if strS z.length then (atI z.cps.toList i).map fun k => (.str ⟨#[k]⟩, h) else none
  | _, _ => none
def kInt (vs : List AV) (h : AH) : Option (AV × AH) := match vs with
  | [.int i] => some (.int i, h)
  | _ => none
def kAbs (vs : List AV) (h : AH) : Option (AV × AH) := match vs with
  | [.int i] => some (.int (if i < 0 then -i else i), h)
  | _ => none
def kMax2 (vs : List AV) (h : AH) : Option (AV × AH) := match vs with
  | [.int i, .int j] => some (.int (if j > i then j else i), h)
  | _ => none
def kMin2 (vs : List AV) (h : AH) : Option (AV × AH) := match vs with
  | [.int i, .int j] => some (.int (if j < i then j else i), h)
  | _ => none
section
variable {G : Gx} {X : Cx} {c c' : Cfg}
theorem flatA_rv {v : AV} {u : V} (x : RV G c v u) (f : flatA v = true) : flatV u = true := by
  cases x <;> first | rfl | cases f
theorem eqA_rv {v w : AV} {u x : V} (xv : RV G c v u) (xw : RV G c w x) (fv : flatA v = true) (fw : flatA w = true) : eqV u x = eqA v w := by
  cases xv with
  | non => cases xw <;> first | rfl | cases fw
  | bl => cases xw <;> first | rfl | cases fw
  | int => cases xw <;> first | rfl | cases fw
  | str => cases xw <;> first | rfl | cases fw
  | _ => cases fv
theorem inA_rv {v : AV} {u : V} (xv : RV G c v u) (fv : flatA v = true) : ∀ {xs : List AV} {us : List V}, RVs G c xs us → xs.all flatA = true → us.all flatV = true ∧ inV u us = inA v xs
  | _, _, .nil, _ => ⟨rfl, rfl⟩
  | _, _, .cons r t, f => by
    rw [List.all_cons, Bool.and_eq_true] at f
    obtain ⟨a, b⟩ := inA_rv xv fv t f.2
    refine ⟨by rw [List.all_cons, a, flatA_rv r f.1]; rfl, ?_⟩
    unfold inV inA at *
    rw [List.any_cons, List.any_cons, b, eqA_rv r xv f.1 fv]
theorem ao_inB (hK : X.K = G.K) (neg : Bool) : AO2 G (kInB neg) (rIn X.K neg) := fun c v w u x Q r xv xw p => by
  unfold kInB at p
  have go : ∀ {xs : List AV} {a : Addr} {us : List V}, RVs G c xs us → x = .ref a → (SqL X.K c.H a us ∨ SqT X.K c.H a us) → PostO G c Q (if (flatA v && xs.all flatA) = true then some (.bl (if neg then !inA v xs else inA v xs), c.h) else none) → rIn X.K neg u x c.H Q := fun {xs a us} y e h p => by
    by_cases e1 : (flatA v && xs.all flatA) = true
    · rw [if_pos e1] at p
      rw [Bool.and_eq_true] at e1
      obtain ⟨a1, a2⟩ := inA_rv xv e1.1 y e1.2
      exact ⟨a, us, e, h, flatA_rv xv e1.1, a1, by rw [a2]; exact post_fin r p .bl⟩
    · rw [if_neg e1] at p; exact p.elim
  cases w with
  | tup xs =>
    obtain ⟨a, us, rfl, q, y⟩ := rv_tup hK xw
    exact go y rfl (.inr q) p
  | fl xs =>
    obtain ⟨a, us, rfl, q, y⟩ := rv_list hK xw
    exact go y rfl (.inl q) p
  | _ => exact p.elim
def rInS (neg : Bool) : R2 := fun x y H Q => ∃ (k : Nat) (z : Str), x = .str ⟨#[k]⟩ ∧ y = .str z ∧ Q (.bl (if neg then !decide (k ∈ z.cps.toList) else decide (k ∈ z.cps.toList))) H
theorem op_inS : OpR X (compareOp .In) (rInS false) := op_in_sign
theorem op_notInS : OpR X (compareOp .NotIn) (rInS true) := op_notIn_sign
theorem ao_inS (neg : Bool) : AO2 G (kInS neg) (rInS neg) := fun c v w u x Q r xv xw p => by
  cases v with
  | str y =>
    cases w with
    | str z =>
      cases xv; cases xw
      unfold kInS at p
      simp only at p
      split at p
      · rename_i k e
        refine ⟨k, z, ?_, rfl, post_fin r p .bl⟩
        have : y = ⟨#[k]⟩ := by
          obtain ⟨⟨l⟩⟩ := y
          simp at e
          rw [e]
        rw [this]
      · exact p.elim
    | _ => exact p.elim
  | _ => cases w <;> exact p.elim
theorem lst_at {n : Nat} {xs : List AV} (r : Rel G c) (q : c.h[n]? = some (some (.lst xs))) : ∃ us, c.H (c.rho n) = some (.lst us) ∧ RVs G c xs us := r.obj n _ q
theorem ao_len (hK : X.K = G.K) : AOL G kLen (fun xs H Q => ∃ x n, xs = [x] ∧ LenV X.K x H n ∧ Q (.int n) H) := fun c v us Q r x p => by
  unfold kLen at p
  split at p
  · rename_i xs
    cases x with
    | cons x t =>
      cases t
      obtain ⟨a, us, rfl, q, y⟩ := rv_tup hK x
      exact ⟨_, xs.length, rfl, .inr ⟨us, q, y.length⟩, post_fin r p .int⟩
  · rename_i xs
    cases x with
    | cons x t =>
      cases t
      obtain ⟨a, us, rfl, q, y⟩ := rv_list hK x
      exact ⟨_, xs.length, rfl, .inl ⟨us, q, y.length⟩, post_fin r p .int⟩
  · rename_i z
    cases x with
    | cons x t =>
      cases t
      cases x
      by_cases e : strS z.length = true
      · rw [if_pos e] at p
        exact ⟨_, z.length, rfl, ⟨small_le e, rfl⟩, post_fin r p .int⟩
      · rw [if_neg e] at p; exact p.elim
  · rename_i n
    cases x with
    | cons x t =>
      cases t
      cases x
      split at p
      · rename_i xs q
        obtain ⟨us, q1, y⟩ := lst_at r q
        exact ⟨_, xs.length, rfl, .inl ⟨us, .inl (.inl q1), y.length⟩, post_fin r p .int⟩
      · exact p.elim
  · exact p.elim
theorem RVs.nth : ∀ {xs : List AV} {us : List V} {i : Nat} {v : AV}, RVs G c xs us → xs[i]? = some v → ∃ u, us[i]? = some u ∧ RV G c v u
  | _, _, 0, _, .cons r _, e => by simp at e; subst e; exact ⟨_, rfl, r⟩
  | _, _, i + 1, v, .cons _ t, e => by
    obtain ⟨u, h1, h2⟩ := RVs.nth (i := i) (v := v) t (by simpa using e)
    exact ⟨u, by simpa using h1, h2⟩
theorem RVs.atI {xs : List AV} {us : List V} {i : Int} {v : AV} (r : RVs G c xs us) (e : L2.atI xs i = some v) : ∃ u, L2.atI us i = some u ∧ RV G c v u := by
  unfold L2.atI at *
  rw [← r.length]
  cases q : ixN xs.length i with
  | none => rw [q] at e; cases e
  | some j =>
    rw [q] at e
    obtain ⟨u, h1, h2⟩ := r.nth e
    exact ⟨u, h1, h2⟩
theorem atI_mem {α : Type} {xs : List α} {i : Int} {v : α} (e : L2.atI xs i = some v) : v ∈ xs := by
  unfold L2.atI at e
  cases q : ixN xs.length i with
  | none => rw [q] at e; cases e
  | some j =>
    rw [q] at e
    exact List.mem_of_getElem? e
theorem strOk_one {z : Str} {k : Nat} (h : PyData.strOk z = true) (e : k ∈ z.cps.toList) : PyData.strOk ⟨#[k]⟩ = true := by
  unfold PyData.strOk at *
  rw [Array.all_eq_true'] at h
  have := h k (by simpa using e)
  simpa using this
theorem ao_ix (hK : X.K = G.K) : AO2 G kIx (rIx X.K) := fun c v w u x Q r xv xw p => by
  cases w with
  | int i =>
    cases xw
    cases v with
    | tup xs =>
      unfold kIx at p
      simp only at p
      obtain ⟨a, us, rfl, q, y⟩ := rv_tup hK xv
      cases e : atI xs i with
      | none => rw [e] at p; exact p.elim
      | some z =>
        rw [e] at p
        obtain ⟨u, e2, y2⟩ := y.atI e
        exact .inr (.inl ⟨a, us, i, u, rfl, rfl, q, e2, post_fin r p y2⟩)
    | fl xs =>
      unfold kIx at p
      simp only at p
      obtain ⟨a, us, rfl, q, y⟩ := rv_list hK xv
      cases e : atI xs i with
      | none => rw [e] at p; exact p.elim
      | some z =>
        rw [e] at p
        obtain ⟨u, e2, y2⟩ := y.atI e
        exact .inl ⟨a, us, i, u, rfl, rfl, q, e2, post_fin r p y2⟩
    | ref n =>
      cases xv
      unfold kIx at p
      simp only at p
      split at p
      · rename_i xs q
        obtain ⟨us, q1, y⟩ := lst_at r q
        cases e : atI xs i with
        | none => rw [e] at p; exact p.elim
        | some z =>
          rw [e] at p
          obtain ⟨u, e2, y2⟩ := y.atI e
          exact .inl ⟨_, us, i, u, rfl, rfl, .inl (.inl q1), e2, post_fin r p y2⟩
      · exact p.elim
    | str z =>
      cases xv with
      | str k =>
        unfold kIx at p
        simp only at p
        by_cases e : strS z.length = true
        · rw [if_pos e] at p
          cases e2 : atI z.cps.toList i with
          | none => rw [e2] at p; exact p.elim
          | some d =>
            rw [e2] at p
            exact .inr (.inr ⟨z, i, d, rfl, rfl, small_le e, e2, post_fin r p (.str (strOk_one k (atI_mem e2)))⟩)
        · rw [if_neg e] at p; exact p.elim
    | _ => exact p.elim
  | _ => cases v <;> exact p.elim
theorem ao_int : AOL G kInt (fun xs H Q => (∃ i, xs = [.int i] ∧ Q (.int i) H) ∨ ∃ k, xs = [.bl k] ∧ Q (.int (if k then 1 else 0)) H) := fun c v us Q r x p => by
  unfold kInt at p
  split at p
  · rename_i i
    cases x with
    | cons x t => cases t; cases x; exact .inl ⟨i, rfl, post_fin r p .int⟩
  · exact p.elim
theorem ao_abs : AOL G kAbs (fun xs H Q => ∃ i, xs = [.int i] ∧ Q (.int (if i < 0 then -i else i)) H) := fun c v us Q r x p => by
  unfold kAbs at p
  split at p
  · rename_i i
    cases x with
    | cons x t => cases t; cases x; exact ⟨i, rfl, post_fin r p .int⟩
  · exact p.elim
theorem ao_max2 : AOL G kMax2 (fun xs H Q => ∃ i j, xs = [.int i, .int j] ∧ Q (.int (if j > i then j else i)) H) := fun c v us Q r x p => by
  unfold kMax2 at p
  split at p
  · rename_i i j
    cases x with
    | cons x t =>
      cases t with
      | cons y t => cases t; cases x; cases y; exact ⟨i, j, rfl, post_fin r p .int⟩
  · exact p.elim
theorem ao_min2 : AOL G kMin2 (fun xs H Q => ∃ i j, xs = [.int i, .int j] ∧ Q (.int (if j < i then j else i)) H) := fun c v us Q r x p => by
  unfold kMin2 at p
  split at p
  · rename_i i j
    cases x with
    | cons x t =>
      cases t with
      | cons y t => cases t; cases x; cases y; exact ⟨i, j, rfl, post_fin r p .int⟩
  · exact p.elim
/-! ### isinstance -/
inductive AT where
  | ty (n : String) | own (k : Nat)
def Gx.tv (G : Gx) : AT → Value
  | .ty n => .type n
  | .own k => .ref (G.ca k)
def typA (v : AV) (h : AH) : Option AT := match v with
  | .non => some (.ty "NoneType")
  | .bl _ => some (.ty "bool")
  | .int _ => some (.ty "int")
  | .str _ => some (.ty "str")
  | .tup _ => some (.ty "tuple")
  | .fl _ => some (.ty "list")
  | .fd _ => some (.ty "dict")
  | .obj k _ => some (.own k)
  | .ref n => match h[n]? with
    | some (some (.lst _)) => some (.ty "list")
    | some (some (.dk _)) => some (.ty "dict")
    | some (some (.ins k _)) => some (.own k)
    | _ => none
  | _ => none
def clsA : AV → Option AT
  | .ty n => some (.ty n)
  | .cls k => some (.own k)
  | _ => none
def kIsi (kt : AT → AT → Option Bool) (vs : List AV) (h : AH) : Option (AV × AH) := match vs with
  | [v, k] => (typA v h).bind fun t => (clsA k).bind fun q => (kt q t).map fun b => (.bl b, h)
  | _ => none
/-- what isinstance asks of an own class -/
structure InsOk (K : PySem.W.Frag) (C : Addr) : Prop where
  cl : Cls K C
  ha : PySem.W.findIn K (.ref C) "__class__" = some (some (.builtin "object.__class__"))
  hn : PySem.W.specialIn K (.builtin "object.__class__") "__get__" = some (some (.builtin "getset_descriptor.__get__"))
  htk : PySem.W.takesIn K (.builtin "object.__class__") = some true
  hm : PySem.W.mroIn K C (.type "object") = some true
structure KitOk (G : Gx) (K : PySem.W.Frag) (kt : AT → AT → Option Bool) : Prop where
  kit : ∀ q t b, kt q t = some b → PySem.W.kitOne K (G.tv t) (G.tv q) = some b
  ins : ∀ q k b, kt q (.own k) = some b → InsOk K (G.ca k)
theorem typ_rv (hK : X.K = G.K) {v : AV} {u : V} {t : AT} (r : Rel G c) (x : RV G c v u) (e : typA v c.h = some t) (hi : ∀ k, t = .own k → InsOk X.K (G.ca k)) : TyX X.K c.H u (G.tv t) := by
  cases x with
  | non => cases e; exact .base .non
  | bl => cases e; exact .base (.bl _)
  | int => cases e; exact .base (.int _)
  | str => cases e; exact .base (.str _)
  | tup q _ _ =>
    cases e
    rcases q with q | ⟨o, q⟩
    · exact .base (.tup q)
    · exact .fTuple q
  | tupK q _ => cases e; obtain ⟨o, its, n, h1, h2, _⟩ := q; exact .kTuple (by rw [hK]; exact h1) h2
  | fl q _ _ =>
    cases e
    rcases q with q | ⟨o, q⟩
    · exact .base (.lst q)
    · exact .base (.frz q)
  | flK q _ => cases e; obtain ⟨o, its, n, h1, h2, _⟩ := q; exact .kList (by rw [hK]; exact h1) h2
  | fd q _ _ =>
    cases e
    rcases q with q | ⟨o, q⟩
    · exact .base (.dK q)
    · exact .fDict q
  | obj q _ _ =>
    cases e
    have i := hi _ rfl
    exact .base (.ins q i.cl i.ha i.hn i.htk i.hm)
  | @ref n hn =>
    unfold typA at e
    simp only at e
    split at e
    · rename_i xs q
      cases e
      obtain ⟨us, q1, _⟩ := r.obj n _ q
      exact .base (.lst q1)
    · rename_i xs q
      cases e
      obtain ⟨us, q1, _⟩ := r.obj n _ q
      exact .base (.dK q1)
    · rename_i k fs q
      cases e
      obtain ⟨dx, us, q1, _⟩ := r.obj n _ q
      have i := hi _ rfl
      exact .base (.ins q1 i.cl i.ha i.hn i.htk i.hm)
    · cases e
  | _ => cases e
theorem cls_rv {v : AV} {u : V} {t : AT} (x : RV G c v u) (e : clsA v = some t) : ClsV u (G.tv t) := by
  cases x <;> first | (cases e; first | exact .ty _ | exact .own _) | cases e
theorem ao_isi (hK : X.K = G.K) {kt : AT → AT → Option Bool} (k : KitOk G X.K kt) : AOL G (kIsi kt) (rIsi X.K) := fun c v us Q r x p => by
  unfold kIsi at p
  split at p
  · rename_i v w
    cases x with
    | cons x t =>
      cases t with
      | cons y t =>
        cases t
        cases e1 : typA v c.h with
        | none => rw [e1] at p; exact p.elim
        | some t =>
          cases e2 : clsA w with
          | none => rw [e1, e2] at p; exact p.elim
          | some q =>
            cases e3 : kt q t with
            | none => rw [e1, e2] at p; simp only [Option.bind, e3] at p; exact p.elim
            | some b =>
              rw [e1, e2] at p
              simp only [Option.bind, e3] at p
              exact ⟨_, _, _, _, b, rfl, cls_rv y e2, typ_rv hK r x e1 (fun k' e => by subst e; exact k.ins q k' b e3), k.kit q t b e3, post_fin r p .bl⟩
  · exact p.elim
/-! ### slices -/
end
section
variable {G : Gx} {B : Bx} {W : WX} {X : Cx} {c c' : Cfg} {a : Expr} {m : ME} {pos p2 : Pos}
theorem RVs.drop : ∀ {xs : List AV} {us : List V} (n : Nat), RVs G c xs us → RVs G c (xs.drop n) (us.drop n)
  | _, _, 0, r => r
  | _, _, _ + 1, .nil => .nil
  | _, _, n + 1, .cons _ t => RVs.drop n t
theorem RVs.take : ∀ {xs : List AV} {us : List V} (n : Nat), RVs G c xs us → RVs G c (xs.take n) (us.take n)
  | _, _, 0, _ => .nil
  | _, _, _ + 1, .nil => .nil
  | _, _, n + 1, .cons r t => .cons r (RVs.take n t)
theorem strOk_cut {z : Str} {l u : Option Int} (k : PyData.strOk z = true) : PyData.strOk (cutS z l u) = true := by
  unfold PyData.strOk cutS at *
  rw [Array.all_eq_true'] at k
  rw [Array.all_eq_true']
  intro x hx
  simp only [List.mem_toArray] at hx
  exact k x (by have := List.mem_of_mem_drop (List.mem_of_mem_take hx); simpa using this)
/-- a part of a slice -/
abbrev MO := Option ME
def mO (o : MO) : AS → AH → Res (Option Int) := fun τ h => match o with
  | none => .ok none h
  | some l => (l τ h).bind fun w h => match w with
    | .int i => .ok (some i) h
    | _ => .stuck
inductive IO (G : Gx) (B : Bx) (W : WX) (X : Cx) : Option Expr → MO → Prop where
  | non : IO G B W X none none
  | som {e m} : IE G B W X e m → IO G B W X (some e) (some m)
def tOo (G : Gx) (B : Bx) (W : WX) (o : MO) : L2.St → Hp → (Option Int → Hp → Prop) → Prop := fun σ H Q => ∃ c τ L, c.H = H ∧ Rel G c ∧ RS G B c L τ σ ∧ Post G (fun _ (a b : Option Int) => a = b) c (fun k d H' => W k d σ H') Q (mO o τ c.h)
theorem PO.imp {e : Option Expr} {t t' : L2.St → Hp → (Option Int → Hp → Prop) → Prop} (h : PO X e t) (f : ∀ σ H Q, t' σ H Q → t σ H Q) : PO X e t' := ⟨fun pins s σ H Q I q => h.run pins s σ H Q I (f _ _ _ q)⟩
theorem IO.po {e : Option Expr} {o : MO} (h : IO G B W X e o) : PO X e (tOo G B W o) := by
  cases h with
  | non =>
    exact PO.imp po_none fun σ H Q ⟨c, τ, L, eH, r, s, p⟩ => by
      subst eH
      exact p c none (.refl r) rfl rfl
  | som h =>
    exact PO.imp (po_some h) fun σ H Q ⟨c, τ, L, eH, r, s, p⟩ => by
      refine ⟨c, τ, L, eH, r, s, (Post.bind (R := RV G) p).imp fun u H1 ⟨c1, v, e1, N1, x1, p1⟩ => ?_⟩
      subst e1
      cases x1 with
      | int => exact ⟨_, rfl, p1 c1 _ (.refl N1.rel) rfl rfl⟩
      | _ => exact p1.elim
def cutA (xs : List AV) (l u : Option Int) : List AV := (xs.drop (HT.sIx xs.length 0 l)).take (HT.sIx xs.length xs.length u - HT.sIx xs.length 0 l)
def kSl (v : AV) (l u : Option Int) (h : AH) : Option (AV × AH) := match v with
  | .fl xs => some (.fl (cutA xs l u), h)
  | .str z => if strS z.length then some (.str (cutS z l u), h) else none
  | .tup xs => if HT.sIx xs.length 0 l = 0 ∧ HT.sIx xs.length xs.length u = xs.length then none else some (.tup (cutA xs l u), h)
  | .ref n => match h[n]? with
    | some (some (.lst xs)) => some (.fl (cutA xs l u), h)
    | _ => none
  | _ => none
def mSl (m : ME) (lo hi : MO) : ME := fun τ h => (m τ h).bind fun v h => (mO lo τ h).bind fun l h => (mO hi τ h).bind fun u h => .of (kSl v l u h)
def rSlA (K : PySem.W.Frag) : V → Option Int → Option Int → Hp → VK → Prop := fun x lo hi H Q => (rSlL K x lo hi H Q ∨ rSlS x lo hi H Q) ∨ rSlT K x lo hi H Q
theorem sl_all : SlR X (rSlA X.K) := SlR.or (SlR.or sl_list sl_str) sl_tup
theorem cutA_rv {xs : List AV} {us : List V} {l u : Option Int} (r : RVs G c xs us) : RVs G c (cutA xs l u) (cutV us l u) := by
  unfold cutA cutV
  rw [r.length]
  exact (r.drop _).take _
theorem ao_sl (hK : X.K = G.K) {v : AV} {x : V} {l u : Option Int} {Q : VK} (r : Rel G c) (xv : RV G c v x) (p : PostO G c Q (kSl v l u c.h)) : rSlA X.K x l u c.H Q := by
  cases v with
  | fl xs =>
    obtain ⟨a, us, rfl, q, y⟩ := rv_list hK xv
    exact .inl (.inl ⟨a, us, rfl, q, post_lst r p (cutA_rv y)⟩)
  | str z =>
    cases xv with
    | str k =>
      unfold kSl at p
      simp only at p
      by_cases e : strS z.length = true
      · rw [if_pos e] at p
        exact .inl (.inr ⟨z, rfl, small_le e, post_fin r p (.str (strOk_cut k))⟩)
      · rw [if_neg e] at p; exact p.elim
  | tup xs =>
    obtain ⟨a, us, rfl, q, y⟩ := rv_tup hK xv
    unfold kSl at p
    simp only at p
    by_cases e : HT.sIx xs.length 0 l = 0 ∧ HT.sIx xs.length xs.length u = xs.length
    · rw [if_pos e] at p; exact p.elim
    · rw [if_neg e] at p
      exact .inr ⟨a, us, rfl, q, by rw [← y.length]; exact e, post_tup r p (cutA_rv y)⟩
  | ref n =>
    cases xv
    unfold kSl at p
    simp only at p
    split at p
    · rename_i xs q
      obtain ⟨us, q1, y⟩ := lst_at r q
      exact .inl (.inl ⟨_, us, rfl, .inl (.inl q1), post_lst r p (cutA_rv y)⟩)
    · exact p.elim
  | _ => exact p.elim
theorem ie_sl {lo hi : Option Expr} {ml mh : MO} (hK : X.K = G.K) (he : IE G B W X a m) (hl : IO G B W X lo ml) (hh : IO G B W X hi mh) : IE G B W X (.Subscript a (.Slice lo hi none p2) pos) (mSl m ml mh) := by
  refine PE.imp (pe_slice sl_all he hl.po hh.po) fun σ H Q ⟨c, τ, L, eH, r, s, p⟩ => ?_
  refine ⟨c, τ, L, eH, r, s, (Post.bind (R := RV G) p).imp fun x H1 ⟨c1, v, e1, N1, x1, p1⟩ => ?_⟩
  refine ⟨c1, τ, L, e1.symm, N1.rel, s.nxt N1, (Post.bind (R := fun _ (a b : Option Int) => a = b) p1).imp fun l H2 ⟨c2, l', e2, N2, x2, p2⟩ => ?_⟩
  refine ⟨c2, τ, L, e2.symm, N2.rel, (s.nxt N1).nxt N2, (Post.bind (R := fun _ (a b : Option Int) => a = b) p2).imp fun u H3 ⟨c3, u', e3, N3, x3, p3⟩ => ?_⟩
  subst e3
  subst x2
  subst x3
  exact ao_sl hK N3.rel ((x1.mono N2.mv).mono N3.mv) (PostO.of p3)
/-! ### walks -/
def mIt (k : AV → AH → Option (List AV)) (m : ME) : MA := fun τ h => (m τ h).bind fun v h => match k v h with
  | some vs => .ok vs h
  | none => .stuck
def itL (v : AV) (_ : AH) : Option (List AV) := match v with
  | .fl xs => some xs
  | _ => none
def itT (v : AV) (_ : AH) : Option (List AV) := match v with
  | .tup xs => some xs
  | _ => none
def itS (v : AV) (_ : AH) : Option (List AV) := match v with
  | .str z => some (z.cps.toList.map fun k => .str ⟨#[k]⟩)
  | _ => none
def enumA (xs : List AV) : List AV := (List.range xs.length).zipWith (fun i v => .tup [.int (i : Nat), v]) xs
def rngA (lo hi : Int) : List AV := (List.range (hi - lo).toNat).map fun i => .int (lo + (i : Nat))
theorem SqL.keep {a : Addr} {xs : List V} (N : Mv c c') (r : Rd c.H a (.lst xs)) (f : Frz c a) : Rd c'.H a (.lst xs) := (N.rd r f).1
theorem goes_list {a : Addr} {xs : List AV} {K : PySem.W.Frag} (hK : K = G.K) (x : RV G c (.fl xs) (.ref a)) : Goes G c (Itl K a) xs := by
  subst hK
  have hq : ∃ us, (∀ c', Mv c c' → SqL G.K c'.H a us) ∧ RVs G c xs us := by
    cases x with
    | fl r f y => exact ⟨_, fun c' M => .inl (M.rd r f).1, y⟩
    | flK k y => exact ⟨_, fun c' M => .inr k, y⟩
  obtain ⟨us, h1, y⟩ := hq
  refine ⟨fun H => SqL G.K H a us, YAt us, by rw [y.length]; exact walk_list, h1, fun c' i x H'' v M r e q => ?_⟩
  obtain ⟨rfl, q⟩ := q
  obtain ⟨u, e2, y2⟩ := y.nth e
  rw [e2] at q
  cases q
  exact ⟨.refl r, y2.mono M⟩
theorem goes_tup {a : Addr} {xs : List AV} {K : PySem.W.Frag} (hK : K = G.K) (x : RV G c (.tup xs) (.ref a)) : Goes G c (Itt K a) xs := by
  subst hK
  have hq : ∃ us, (∀ c', Mv c c' → SqT G.K c'.H a us) ∧ RVs G c xs us := by
    cases x with
    | tup r f y => exact ⟨_, fun c' M => .inl (M.rd r f).1, y⟩
    | tupK k y => exact ⟨_, fun c' M => .inr k, y⟩
  obtain ⟨us, h1, y⟩ := hq
  refine ⟨fun H => SqT G.K H a us, YAt us, by rw [y.length]; exact walk_tup, h1, fun c' i x H'' v M r e q => ?_⟩
  obtain ⟨rfl, q⟩ := q
  obtain ⟨u, e2, y2⟩ := y.nth e
  rw [e2] at q
  cases q
  exact ⟨.refl r, y2.mono M⟩
theorem goes_enum {a : Addr} {xs : List AV} {K : PySem.W.Frag} (hK : K = G.K) (x : RV G c (.fl xs) (.ref a)) : Goes G c (Ite K a) (enumA xs) := by
  subst hK
  have hq : ∃ us, (∀ c', Mv c c' → SqL G.K c'.H a us) ∧ RVs G c xs us := by
    cases x with
    | fl r f y => exact ⟨_, fun c' M => .inl (M.rd r f).1, y⟩
    | flK k y => exact ⟨_, fun c' M => .inr k, y⟩
  obtain ⟨us, h1, y⟩ := hq
  have hl : (enumA xs).length = us.length := by unfold enumA; simp [y.length]
  refine ⟨fun H => SqL G.K H a us, YPair (fun i => some (.int (i : Nat))) (fun i => us[i]?), by rw [hl]; exact walk_enum, h1, fun c' i x H'' v M r e q => ?_⟩
  obtain ⟨T, z, w, rfl, hT, rfl, e1, e2⟩ := q
  cases e1
  have e' : ∃ v0, xs[i]? = some v0 ∧ v = .tup [.int (i : Nat), v0] := by
    unfold enumA at e
    rw [List.getElem?_zipWith] at e
    cases hr : (List.range xs.length)[i]? with
    | none => rw [hr] at e; simp at e
    | some j =>
      cases hx : xs[i]? with
      | none => rw [hr, hx] at e; simp at e
      | some v0 =>
        rw [hr, hx] at e
        have : j = i := by
          have := List.getElem?_range (n := xs.length) (i := i)
          rw [List.getElem?_eq_some_iff] at hr
          obtain ⟨h3, h4⟩ := hr
          simpa using h4.symm
        subst this
        simp at e
        exact ⟨v0, rfl, e.symm⟩
  obtain ⟨v0, e3, rfl⟩ := e'
  obtain ⟨u, e4, y2⟩ := y.nth e3
  have e2' : us[i]? = some w := e2
  rw [e4] at e2'
  cases e2'
  have N := Nxt.temp (O := .tup [.int (i : Nat), w]) r hT
  exact ⟨N, .tup (.inl upd_same) (r.frz hT) (.cons .int (.cons ((y2.mono M).mono N.mv) .nil))⟩
theorem goes_range {lo : Int} {n : Nat} : Goes G c (Itr lo n) ((List.range n).map fun i => .int (lo + (i : Nat))) := by
  refine ⟨fun _ => True, YFn fun i => .int (lo + i), by simpa using walk_range, fun _ _ => trivial, fun c' i x H'' v M r e q => ?_⟩
  obtain ⟨rfl, rfl⟩ := q
  rw [List.getElem?_map] at e
  cases hr : (List.range n)[i]? with
  | none => rw [hr] at e; simp at e
  | some j =>
    rw [hr] at e
    have : j = i := by
      rw [List.getElem?_eq_some_iff] at hr
      obtain ⟨h3, h4⟩ := hr
      simpa using h4.symm
    subst this
    simp at e
    subst e
    exact ⟨.refl r, .int⟩
theorem goes_str {z : Str} (k : PyData.strOk z = true) : Goes G c (Its z) (z.cps.toList.map fun k => .str ⟨#[k]⟩) := by
  refine ⟨fun _ => True, fun i H v H' => H' = H ∧ ∃ c, z.cps[i]? = some c ∧ v = .str ⟨#[c]⟩, by simpa using walk_str, fun _ _ => trivial, fun c' i x H'' v M r e q => ?_⟩
  obtain ⟨rfl, d, q, rfl⟩ := q
  rw [List.getElem?_map, Array.getElem?_toList, q] at e
  simp at e
  subst e
  exact ⟨.refl r, .str (strOk_one k (by simpa using Array.mem_of_getElem? q))⟩
variable {tg e e2 : Expr} {ma : MA} {p pe : Pos}
theorem ii_list (hK : X.K = G.K) (he : IE G B W X e m) : II G B W X tg e (mIt itL m) := PI.imp (pi_list he) fun σ H R ⟨c, τ, L, eH, r, s, q⟩ => by
  refine ⟨c, τ, L, eH, r, s, (Post.bind (R := RV G) q).imp fun u H1 ⟨c1, v, e1, N1, x1, p1⟩ => ?_⟩
  subst e1
  cases v with
  | fl xs =>
    obtain ⟨a, us, rfl, q1, y⟩ := rv_list hK x1
    exact ⟨a, rfl, ⟨us, q1⟩, p1 c1 _ (.refl N1.rel) rfl (goes_list hK x1)⟩
  | _ => exact p1.elim
theorem ii_tup (hK : X.K = G.K) (he : IE G B W X e m) : II G B W X tg e (mIt itT m) := PI.imp (pi_tup he) fun σ H R ⟨c, τ, L, eH, r, s, q⟩ => by
  refine ⟨c, τ, L, eH, r, s, (Post.bind (R := RV G) q).imp fun u H1 ⟨c1, v, e1, N1, x1, p1⟩ => ?_⟩
  subst e1
  cases v with
  | tup xs =>
    obtain ⟨a, us, rfl, q1, y⟩ := rv_tup hK x1
    exact ⟨a, rfl, ⟨us, q1⟩, p1 c1 _ (.refl N1.rel) rfl (goes_tup hK x1)⟩
  | _ => exact p1.elim
theorem ii_str (he : IE G B W X e m) : II G B W X tg e (mIt itS m) := PI.imp (pi_str he) fun σ H R ⟨c, τ, L, eH, r, s, q⟩ => by
  refine ⟨c, τ, L, eH, r, s, (Post.bind (R := RV G) q).imp fun u H1 ⟨c1, v, e1, N1, x1, p1⟩ => ?_⟩
  subst e1
  cases v with
  | str z =>
    cases x1 with
    | str k => exact ⟨z, rfl, p1 c1 _ (.refl N1.rel) rfl (goes_str k)⟩
  | _ => exact p1.elim
def mEnum (ma : MA) : MA := fun τ h => (ma τ h).bind fun vs h => match vs with
  | [.fl xs] => .ok (enumA xs) h
  | _ => .stuck
theorem ii_enum {elts : List Expr} {kk : Nat} {tpos : Pos} (hK : X.K = G.K) (hm : X.mg "enumerate" = none) (ha : IA G B W X [e] ma) (hg : Gl X "enumerate" := by rfl) (hs : starEach [e] X.env = [(false, eval e X.env)] := by rfl) :
    II G B W X (.Tuple elts kk tpos) (.Call (.Name "enumerate" p) [e] [] pos) (mEnum ma) := PI.imp (pi_enum hg hm ha hs) fun σ H R ⟨c, τ, L, eH, r, s, q⟩ => by
  refine ⟨c, τ, L, eH, r, s, (Post.bind (R := RVs G) q).imp fun u H1 ⟨c1, v, e1, N1, x1, p1⟩ => ?_⟩
  subst e1
  cases x1 with
  | nil => exact p1.elim
  | @cons y ys u1 us1 y1 t1 =>
    cases t1 with
    | cons _ _ => exact (by cases y <;> exact p1.elim)
    | nil =>
      cases y with
      | fl xs =>
        obtain ⟨a, us, rfl, q1, yy⟩ := rv_list hK y1
        exact ⟨a, us, rfl, q1, p1 c1 _ (.refl N1.rel) rfl (goes_enum hK y1)⟩
      | _ => exact p1.elim
def rOk (i : Int) : Bool := decide (-4611686018427387904 ≤ i ∧ i < 4611686018427387904)
def mRng1 (ma : MA) : MA := fun τ h => (ma τ h).bind fun vs h => match vs with
  | [.int j] => if rOk j then .ok (rngA 0 j) h else .stuck
  | _ => .stuck
def mRng2 (ma : MA) : MA := fun τ h => (ma τ h).bind fun vs h => match vs with
  | [.int i, .int j] => if rOk i && rOk j then .ok (rngA i j) h else .stuck
  | _ => .stuck
theorem rOk_of {i : Int} (h : rOk i = true) : -(2 ^ 62) ≤ i ∧ i < 2 ^ 62 := by
  have := of_decide_eq_true h
  omega
theorem ii_range1 (hm : X.mg "range" = none) (ha : IA G B W X [e] ma) (hg : Gl X "range" := by rfl) (hs : starEach [e] X.env = [(false, eval e X.env)] := by rfl) :
    II G B W X tg (.Call (.Name "range" p) [e] [] pos) (mRng1 ma) := PI.imp (pi_range1 hg hm ha hs) fun σ H R ⟨c, τ, L, eH, r, s, q⟩ => by
  refine ⟨c, τ, L, eH, r, s, (Post.bind (R := RVs G) q).imp fun u H1 ⟨c1, v, e1, N1, x1, p1⟩ => ?_⟩
  subst e1
  cases x1 with
  | nil => exact p1.elim
  | @cons y ys u1 us1 y1 t1 =>
    cases t1 with
    | cons _ _ => exact (by cases y <;> exact p1.elim)
    | nil =>
      cases y with
      | int j =>
        cases y1
        simp only at p1
        by_cases h : rOk j = true
        · rw [if_pos h] at p1
          obtain ⟨a1, a2⟩ := rOk_of h
          refine ⟨j, rfl, a1, a2, p1 c1 _ (.refl N1.rel) rfl ?_⟩
          have g := goes_range (G := G) (c := c1) (lo := 0) (n := j.toNat)
          unfold rngA
          rw [show (j - 0).toNat = j.toNat by simp]
          exact g
        · rw [if_neg h] at p1; exact p1.elim
      | _ => exact p1.elim
theorem ii_range2 (hm : X.mg "range" = none) (ha : IA G B W X [e, e2] ma) (hg : Gl X "range" := by rfl) (hs : starEach [e, e2] X.env = [(false, eval e X.env), (false, eval e2 X.env)] := by rfl) (hs2 : starEach [e2] X.env = [(false, eval e2 X.env)] := by rfl) :
    II G B W X tg (.Call (.Name "range" p) [e, e2] [] pos) (mRng2 ma) := PI.imp (pi_range2 hg hm ha hs hs2) fun σ H R ⟨c, τ, L, eH, r, s, q⟩ => by
  refine ⟨c, τ, L, eH, r, s, (Post.bind (R := RVs G) q).imp fun u H1 ⟨c1, v, e1, N1, x1, p1⟩ => ?_⟩
  subst e1
  cases x1 with
  | nil => exact p1.elim
  | @cons y ys u1 us1 y1 t1 =>
    cases t1 with
    | nil => exact (by cases y <;> exact p1.elim)
    | @cons z zs u2 us2 z1 t2 =>
      cases t2 with
      | cons _ _ => exact (by cases y <;> first | exact p1.elim | (cases z <;> exact p1.elim))
      | nil =>
        cases y with
        | int i =>
          cases z with
          | int j =>
            cases y1; cases z1
            simp only at p1
            by_cases h : (rOk i && rOk j) = true
            · rw [if_pos h] at p1
              rw [Bool.and_eq_true] at h
              obtain ⟨a1, a2⟩ := rOk_of h.1
              obtain ⟨b1, b2⟩ := rOk_of h.2
              exact ⟨i, j, rfl, ⟨a1, a2, b1, b2⟩, p1 c1 _ (.refl N1.rel) rfl goes_range⟩
            · rw [if_neg h] at p1; exact p1.elim
          | _ => exact p1.elim
        | _ => exact p1.elim
end
end PI
/-! PIq: an error's fields, class constants, stores into lists, chains, the module's dicts. -/
namespace PI
open PySem PySem.Spec PyProof.Rows L2 ClX
section
variable {X : Cx} {e : Expr}
theorem PE.any {ι : Type} {t : ι → TE} (h : ∀ i, PE X e (t i)) : PE X e (fun σ H Q => ∃ i, t i σ H Q) := ⟨fun pins s σ H Q I ⟨i, q⟩ => (h i).run pins s σ H Q I q⟩
end
section
variable {G : Gx} {B : Bx} {zs : Addr → Prop} {W : WX} {X : Cx} {c c' : Cfg} {L : List Addr} {τ : AS} {σ : SL} {pos pos' p : Pos} {e o : Expr} {es : List Expr} {m n mo : ME} {ma : MA} {mt : MT} {x s : Str} {i : Nat}
structure XfOk (G : Gx) (K : PySem.W.Frag) (f : Nat) (k : Nat) : Prop where
  xf : XfC K (G.ca k)
  no : PySem.W.findIn K (.ref (G.ca k)) (G.nm f) = some none
theorem plain_rv {v : AV} {u : V} (r : RV G c v u) : plainV v = true := by cases r <;> rfl
/-- e.f, e the error in hand -/
theorem ie_exf {a : Addr} {oe : Obj} {cls : Value} {d : Option Addr} {pn : List (Addr × Obj)} {ks : List Nat} {f : Nat} {fx : Str} {q1 : Pos} (i : Nat) (hz : Zc cls d oe) (hf : ∃ vs, oe.data = .fields vs) (hx : fx = G.nm f) (hks : ∀ k, k ∈ ks → XfOk G X.K f k)
    (hN : X.N[i]? = some s := by rfl) (hv : Vis X.env.scope s := by first | exact Or.inl rfl | exact Or.inr (Or.inl rfl)) (hd : (s == ("__debug__" : Str)) = false := by decide)
    (hcd : (s == ("__classdict__" : Str)) = false := by decide) (hb : attributeBase (.Name s q1) fx X.env (eval (.Name s q1) X.env) = eval (.Name s q1) X.env := by rfl) :
    IE G (B.exc a cls d) W (X.suite a ((a, oe) :: pn)) (.Attribute (.Name s q1) fx pos) (mExF ks i f) := by
  subst hx
  have key : ∀ k : { k // k ∈ ks }, PE (X.suite a ((a, oe) :: pn)) (.Attribute (.Name s q1) (G.nm f) pos) (tXf a cls d (G.ca k.1) (G.nm f) (tVar i)) := fun k =>
    pe_xf (hks k.1 k.2).xf (hks k.1 k.2).no hz hf (pv (X := X.suite a ((a, oe) :: pn)) i hN hv hd hcd) hb
  refine PE.imp (PE.any key) fun σ H Q ⟨c, τ, L, eH, r, s, p⟩ => ?_
  subst eH
  unfold mExF at p
  split at p
  · rename_i k fs q
    by_cases hk : ks.contains k = true
    · rw [if_pos hk] at p
      have hk' : k ∈ ks := by simpa using hk
      cases q2 : fs.lookup f with
      | none => rw [q2] at p; exact p.elim
      | some w =>
        rw [q2] at p
        simp only at p
        by_cases hp : plainV w = true
        · rw [if_pos hp] at p
          obtain ⟨P, S, l, t, e1, e2, y, _⟩ := s.focus q
          cases y with
          | val q => cases q
          | mE rx =>
            obtain ⟨ec, rx⟩ := rx
            rcases rx with ⟨ef, _⟩ | ⟨dd, uf, ed, hdd, fz, xf⟩
            · subst ef; cases q2
            · obtain ⟨u2, e3, x2⟩ := xf.get q2
              exact ⟨⟨k, hk'⟩, _, e2, rfl, ec, dd, uf, u2, ed, hdd, e3, fin r x2 p⟩
        · rw [if_neg hp] at p; exact p.elim
    · rw [if_neg hk] at p; exact p.elim
  · exact p.elim
/-! class constants -/
def mCval (k : Nat) (v : AV) (m : ME) : ME := fun τ h => (m τ h).bind fun w h => match w with
  | .cls k' => if k' = k then .ok v h else .stuck
  | _ => .stuck
theorem ie_cval {k : Nat} {v : AV} {u : V} {w mc : Value} {f : Str} (he : IE G B W X e m) (r : CRead X.K (G.ca k) mc) (cv : CVal X.K (G.ca k) mc f u w) (g : GV G v u) (hb : attributeBase e f X.env (eval e X.env) = eval e X.env := by rfl) : IE G B W X (.Attribute e f pos) (mCval k v m) := by
  refine PE.imp (pe_cval he hb) fun σ H Q ⟨c, τ, L, eH, rl, s, p⟩ => ?_
  refine ⟨c, τ, L, eH, rl, s, (Post.bind (R := RV G) p).imp fun u H1 ⟨c1, v, e1, N1, x1, p1⟩ => ?_⟩
  subst e1
  cases x1 with
  | @cls k' =>
    simp only at p1
    by_cases hk : k' = k
    · rw [if_pos hk] at p1
      subst hk
      exact ⟨_, _, _, _, rfl, r, cv, fin N1.rel (g _) p1⟩
    · rw [if_neg hk] at p1; exact p1.elim
  | _ => exact p1.elim
/-! xs[i] = e, xs a list of the plain heap -/
def sSetIx (mo mi m : ME) : MS := fun τ h => (m τ h).bindS τ fun v h => (mo τ h).bindS τ fun w h => (mi τ h).bindS τ fun k h => match w, k with
  | .ref n, .int j => match h[n]? with
    | some (some (.lst xs)) => match ixN xs.length j with
      | some q => .nx τ (h.set n (some (.lst (xs.set q v))))
      | none => .stuck
    | _ => .stuck
  | _, _ => .stuck
theorem RVs.set : ∀ {xs : List AV} {us : List V} (j : Nat) {v : AV} {u : V}, RVs G c xs us → RV G c v u → RVs G c (xs.set j v) (us.set j u)
  | _, _, _, _, _, .nil, _ => .nil
  | _, _, 0, _, _, .cons _ t, x => .cons x t
  | _, _, j + 1, _, _, .cons r t, x => .cons r (RVs.set j t x)
theorem is_setix {a : Expr} {mi : ME} (he : IE G B W X e m) (ho : IE G B W X o mo) (hi : IE G B W X a mi) (hs : swapsWithSole [.Subscript o a pos'] e pos.line X.env = pure false := by rfl) (hw : swappedStores [.Subscript o a pos'] e X.env = pure none := by rfl)
    (h1 : (assignEach [.Subscript o a pos'] X.env).map (·.2) = [assign (.Subscript o a pos') X.env] := by rfl)
    (ht : ∀ v, assign (.Subscript o a pos') X.env v = (do
      let ov ← holding [v] (eval o X.env)
      let iv ← holding [v, ov] (eval a X.env)
      standAt pos'
      holding [v, ov, iv] (setItem ov iv v)
      release [v, ov, iv] []) := by intro _; rfl) : IS G B zs W X (.Assign [.Subscript o a pos'] e pos) (sSetIx mo mi m) := by
  refine PS.imp (ps_asg he (pg_sub ho hi set_list ht) hs hw h1) fun D σ H ⟨c, τ, L, eH, r, o, s, p⟩ => ?_
  refine ⟨c, τ, L, eH, r, s, (PostS.bindS (R := RV G) o s p).imp fun u H1 ⟨c1, v, e1, N1, x1, p1⟩ => ?_⟩
  refine ⟨c1, τ, L, e1, N1.rel, s.nxt N1, (PostS.bindS (R := RV G) (o.nxt N1) (s.nxt N1) p1).imp fun u2 H2 ⟨c2, w, e2, N2, x2, p2⟩ => ?_⟩
  refine ⟨c2, τ, L, e2, N2.rel, (s.nxt N1).nxt N2, (PostS.bindS (R := RV G) ((o.nxt N1).nxt N2) ((s.nxt N1).nxt N2) p2).imp fun u3 H3 ⟨c3, k, e3, N3, x3, p3⟩ => ?_⟩
  subst e3
  have x2' := x2.mono N3.mv
  cases x2' with
  | @ref n hn =>
    cases x3 with
    | @int j =>
      simp only at p3
      split at p3
      · rename_i xs q
        split at p3
        · rename_i jj q4
          obtain ⟨us, q1, y⟩ := lst_at N3.rel q
          have x1' := (x1.mono N2.mv).mono N3.mv
          have N4 := Nxt.write (o' := .lst (xs.set jj v)) (O := .lst (us.set jj u)) N3.rel q fun c4 M e4 => ⟨_, e4, (y.set jj x1').mono M⟩
          exact ⟨_, us, j, jj, rfl, rfl, q1, by rw [← y.length]; exact q4, p3 _ L σ (Stp.of N4 (((o.nxt N1).nxt N2).nxt N3)) rfl ((((s.nxt N1).nxt N2).nxt N3).nxt N4)⟩
        · exact p3.elim
      · exact p3.elim
    | _ => exact p3.elim
  | _ => cases x3 <;> exact p3.elim
/-! a op1 b op2 c -/
def chT (k' : AV → AV → AH → Option (AV × AH)) (mc : ME) (τ : AS) (w t : AV) (h : AH) : Res AV := match t with
  | .bl true => (mc τ h).bind fun x h => .of (k' w x h)
  | .bl false => .ok (.bl false) h
  | _ => .stuck
def mChain (k k' : AV → AV → AH → Option (AV × AH)) (ma mb mc : ME) : ME := fun τ h => (ma τ h).bind fun v h => (mb τ h).bind fun w h => (Res.of (k v w h)).bind fun t h => chT k' mc τ w t h
theorem chain_ok {k k' : AV → AV → AH → Option (AV × AH)} {r r' : R2} {ma mb mc : ME} (hk : AO2 G k r) (hk' : AO2 G k' r') {σ : SL} {H : Hp} {Q : VK} (t : tI G B W (mChain k k' ma mb mc) σ H Q) : tChain r r' (tI G B W ma) (tI G B W mb) (tI G B W mc) σ H Q := by
  obtain ⟨c, τ, L, eH, rl, s, p⟩ := t
  refine ⟨c, τ, L, eH, rl, s, (Post.bind (R := RV G) p).imp fun u H1 ⟨c1, v, e1, N1, x1, p1⟩ => ?_⟩
  refine ⟨c1, τ, L, e1.symm, N1.rel, s.nxt N1, (Post.bind (R := RV G) p1).imp fun u2 H2 ⟨c2, w, e2, N2, x2, p2⟩ => ?_⟩
  subst e2
  refine hk c2 v w u u2 _ N2.rel (x1.mono N2.mv) x2 ?_
  cases q : k v w c2.h with
  | none => rw [q] at p2; exact p2.elim
  | some th =>
    obtain ⟨t, h3⟩ := th
    rw [q] at p2
    intro c3 u3 N3 e3 x3
    subst e3
    have p2' : Post G (RV G) c2 (fun k d H' => W k d σ H') Q (chT k' mc τ w t c3.h) := p2
    cases x3 with
    | @bl b =>
      refine ⟨b, rfl, ?_⟩
      cases b with
      | true =>
        rw [if_pos rfl]
        refine ⟨c3, τ, L, rfl, N3.rel, ((s.nxt N1).nxt N2).nxt N3, (Post.bind (R := RV G) (Post.trans N3 p2')).imp fun u4 H4 ⟨c4, y, e4, N4, x4, p4⟩ => ?_⟩
        subst e4
        exact hk' c4 w y u2 u4 Q N4.rel ((x2.mono N3.mv).mono N4.mv) x4 (PostO.of p4)
      | false =>
        rw [if_neg Bool.false_ne_true]
        exact fin N3.rel .bl (Post.trans N3 p2')
    | _ => exact p2'.elim
theorem ie_chain {op op' : CmpOp} {k k' : AV → AV → AH → Option (AV × AH)} {r r' : R2} {a b d : Expr} {ma mb mc : ME} (ho : OpR X (compareOp op) r) (hk : AO2 G k r) (ho' : OpR X (compareOp op') r') (hk' : AO2 G k' r') (ha : IE G B W X a ma) (hb : IE G B W X b mb) (hc : IE G B W X d mc)
    (hm : lastMarks [op, op'] [b, d] = false := by with_unfolding_all rfl) : IE G B W X (.Compare a [op, op'] [b, d] pos) (mChain k k' ma mb mc) :=
  PE.imp (pe_chain ho ho' ha hb hc hm) fun _ _ _ t => chain_ok hk hk' t
theorem it_chain {op op' : CmpOp} {k k' : AV → AV → AH → Option (AV × AH)} {r r' : R2} {a b d : Expr} {ma mb mc : ME} (ho : OpR X (compareOp op) r) (hk : AO2 G k r) (ho' : OpR X (compareOp op') r') (hk' : AO2 G k' r') (ha : IE G B W X a ma) (hb : IE G B W X b mb) (hc : IE G B W X d mc)
    (hm : lastMarks [op, op'] [b, d] = false := by with_unfolding_all rfl) : IT G B W X (.Compare a [op, op'] [b, d] pos) (mB (mChain k k' ma mb mc)) := by
  refine PT.imp (pt_chain ho ho' ha hb hc hm) fun σ H Q ⟨c, τ, L, eH, rl, s, p⟩ => ?_
  refine chain_ok hk hk' (Q := fun x H' => ∃ k, x = .bl k ∧ Q k H') ⟨c, τ, L, eH, rl, s, (Post.bind (R := RV G) p).imp fun u H1 ⟨c1, v, e1, N1, x1, p1⟩ => ?_⟩
  subst e1
  exact as_bool N1.rel x1 p1
/-! the module's dicts -/
def slook : List (Str × AV) → Str → Option AV
  | [], _ => none
  | (k, v) :: r, z => if k = z then some v else slook r z
structure KdOk (G : Gx) (K : PySem.W.Frag) (w : World) (d : Nat) (tb : List (Str × AV)) : Prop where
  ex : ∃ es n, KDict K w (G.da d) es n ∧ ∀ z, match slook tb z with
    | some v => ∃ u0 v0, PySem.W.nsIn K (G.da d) z = some (some u0) ∧ RelV v0 u0 ∧ GV G v v0
    | none => PySem.W.nsIn K (G.da d) z = some none
inductive KEs (G : Gx) : List DictEntry → List (Str × AV) → Prop where
  | nil : KEs G [] []
  | cons {d x t v v0 ds tb} : d.key = .str x t → RelV v0 d.val → GV G v v0 → KEs G ds tb → KEs G (d :: ds) ((x, v) :: tb)
theorem isStr_str (x z : Str) (t : Tok) : (Value.str x t).isStr z = decide (x = z) := by
  rw [PySem.W.isStr_of]
  show (x == z) = decide (x = z)
  exact Bool.beq_eq_decide_eq x z
theorem kd_of {K : PySem.W.Frag} {w : World} {d : Nat} {es : Array DictEntry} {k : Nat} {tb : List (Str × AV)} (D : KDict K w (G.da d) es k) (ke : KEs G es.toList tb) : KdOk G K w d tb := by
  refine ⟨es, k, D, fun z => ?_⟩
  have key : ∀ (ds : List DictEntry) (tb : List (Str × AV)), KEs G ds tb → (match slook tb z with
      | some v => ∃ q v0, ds.find? (·.key.isStr z) = some q ∧ RelV v0 q.val ∧ GV G v v0
      | none => ds.find? (·.key.isStr z) = none ∧ ds.any (·.refKey) = false ∨ ds.find? (·.key.isStr z) = none) := by
    intro ds tb ke
    induction ke with
    | nil => exact .inr rfl
    | @cons q x t v v0 ds tb e1 e2 e3 _ ih =>
      unfold slook
      by_cases h : x = z
      · rw [if_pos h]
        exact ⟨q, v0, by rw [List.find?_cons, e1, isStr_str, decide_eq_true h], e2, e3⟩
      · rw [if_neg h]
        have hf : (q.key.isStr z) = false := by rw [e1, isStr_str, decide_eq_false h]
        cases q2 : slook tb z with
        | none =>
          rw [q2] at ih
          rcases ih with ih | ih
          · exact .inr (by rw [List.find?_cons, hf]; exact ih.1)
          · exact .inr (by rw [List.find?_cons, hf]; exact ih)
        | some v' =>
          rw [q2] at ih
          obtain ⟨q', v0', h1, h2, h3⟩ := ih
          exact ⟨q', v0', by rw [List.find?_cons, hf]; exact h1, h2, h3⟩
  have rk : ∀ (ds : List DictEntry) (tb : List (Str × AV)), KEs G ds tb → ds.any (·.refKey) = false := by
    intro ds tb ke
    induction ke with
    | nil => rfl
    | @cons q x t v v0 ds tb e1 e2 e3 _ ih =>
      rw [List.any_cons, ih, Bool.or_false]
      unfold DictEntry.refKey
      rw [e1]
  have h1 := key _ _ ke
  have h2 := rk _ _ ke
  unfold PySem.W.nsIn
  rw [D.at_]
  simp only
  cases q : slook tb z with
  | some v =>
    rw [q] at h1
    obtain ⟨e, v0, f1, f2, f3⟩ := h1
    exact ⟨e.val, v0, by rw [f1], f2, f3⟩
  | none =>
    rw [q] at h1
    have hf : es.toList.find? (·.key.isStr z) = none := by rcases h1 with h | h; exact h.1; exact h
    rw [hf]
    simp only
    rw [h2]
    rfl
def kInK (tb : List (Str × AV)) (neg : Bool) (d : Nat) (v w : AV) (h : AH) : Option (AV × AH) := match v, w with
  | .str z, .kd d' => if d' = d then some (.bl (if neg then !(slook tb z).isSome else (slook tb z).isSome), h) else none
  | _, _ => none
def kIxK (tb : List (Str × AV)) (d : Nat) (v w : AV) (h : AH) : Option (AV × AH) := match v, w with
  | .kd d', .str z => if d' = d then (slook tb z).map fun v => (v, h) else none
  | _, _ => none
def rInK (K : PySem.W.Frag) (d : Addr) (neg : Bool) : R2 := fun x y H Q => ∃ (z : Str) (r : Option Value), x = .str z ∧ y = .ref d ∧ PySem.W.nsIn K d z = some r ∧ Q (.bl (if neg then !r.isSome else r.isSome)) H
theorem op_inK {d : Nat} {tb : List (Str × AV)} (k : KdOk G X.K X.w d tb) : OpR X (compareOp .In) (rInK X.K (G.da d) false) := by
  obtain ⟨es, n, D, _⟩ := k.ex
  exact op_in_kd D
theorem op_notInK {d : Nat} {tb : List (Str × AV)} (k : KdOk G X.K X.w d tb) : OpR X (compareOp .NotIn) (rInK X.K (G.da d) true) := by
  obtain ⟨es, n, D, _⟩ := k.ex
  exact op_notIn_kd D
theorem ao_inK {d : Nat} {tb : List (Str × AV)} (k : KdOk G X.K X.w d tb) (neg : Bool) : AO2 G (kInK tb neg d) (rInK X.K (G.da d) neg) := fun c v w u x Q r xv xw p => by
  obtain ⟨es, n, D, hz⟩ := k.ex
  cases v with
  | str z =>
    cases w with
    | kd d' =>
      cases xv; cases xw
      unfold kInK at p
      simp only at p
      by_cases h : d' = d
      · rw [if_pos h] at p
        subst h
        have hh := hz z
        cases q : slook tb z with
        | some v =>
          rw [q] at hh p
          obtain ⟨u0, v0, h1, h2, h3⟩ := hh
          exact ⟨z, some u0, rfl, rfl, h1, post_fin r p .bl⟩
        | none =>
          rw [q] at hh p
          exact ⟨z, none, rfl, rfl, hh, post_fin r p .bl⟩
      · rw [if_neg h] at p; exact p.elim
    | _ => exact p.elim
  | _ => cases w <;> exact p.elim
theorem ao_ixK {d : Nat} {tb : List (Str × AV)} (k : KdOk G X.K X.w d tb) : AO2 G (kIxK tb d) (rIxD X.K X.w) := fun c v w u x Q r xv xw p => by
  obtain ⟨es, n, D, hz⟩ := k.ex
  cases v with
  | kd d' =>
    cases w with
    | str z =>
      cases xv; cases xw
      unfold kIxK at p
      simp only at p
      by_cases h : d' = d
      · rw [if_pos h] at p
        subst h
        have hh := hz z
        cases q : slook tb z with
        | some v =>
          rw [q] at hh p
          obtain ⟨u0, v0, h1, h2, h3⟩ := hh
          exact ⟨_, z, v0, rfl, rfl, ⟨es, n, u0, D.at_, D.lit, h1, h2⟩, post_fin r p (h3 _)⟩
        | none =>
          rw [q] at p; exact p.elim
      · rw [if_neg h] at p; exact p.elim
    | _ => exact p.elim
  | _ => cases w <;> exact p.elim
/-! isinstance of the error in hand -/
structure ExcOk (K : PySem.W.Frag) (D : Addr) : Prop where
  hcl : (PySem.W.clsIn K D).isSome = true
  hg : PySem.W.findIn K (.ref D) "__getattribute__" = some (some (.builtin "BaseException.__getattribute__"))
  hk : PySem.W.findIn K (.ref D) "__getattr__" = some none
  hs : PySem.W.subIn K (.ref D) (.type "BaseException") = some true
  ha : PySem.W.findIn K (.ref D) "__class__" = some (some (.builtin "object.__class__"))
  hn : PySem.W.specialIn K (.builtin "object.__class__") "__get__" = some (some (.builtin "getset_descriptor.__get__"))
  ht : PySem.W.takesIn K (.builtin "object.__class__") = some true
  hm : PySem.W.mroIn K D (.type "object") = some true
structure KitX2 (G : Gx) (K : PySem.W.Frag) (kt : AT → AT → Option Bool) : Prop where
  kit : ∀ q k b, kt q (.own k) = some b → PySem.W.kitOne K (.ref (G.ca k)) (G.tv q) = some b
  exc : ∀ q k b, kt q (.own k) = some b → ExcOk K (G.ca k)
def mIsE (kt : AT → AT → Option Bool) (i : Nat) (m : ME) : ME := fun τ h => match τ[i]? with
  | some (some (.mE (.own k) _)) => (m τ h).bind fun w h => match clsA w with
    | some q => match kt q (.own k) with
      | some b => .ok (.bl b) h
      | none => .stuck
    | none => .stuck
  | _ => .stuck
theorem ie_isE {a : Addr} {oe : Obj} {cls : Value} {d : Option Addr} {pn : List (Addr × Obj)} {kt : AT → AT → Option Bool} {q1 q2 : Pos} (i : Nat) (hz : Zc cls d oe) (hf : ∃ vs, oe.data = .fields vs) (hk : KitX2 G X.K kt) (hm : X.mg "isinstance" = none)
    (hv2 : bootBuiltins "isinstance" = some (.builtin "isinstance")) (he : IE G (B.exc a cls d) W (X.suite a ((a, oe) :: pn)) e m) (hN : X.N[i]? = some s := by rfl) (hv : Vis X.env.scope s := by first | exact Or.inl rfl | exact Or.inr (Or.inl rfl)) (hd : (s == ("__debug__" : Str)) = false := by decide)
    (hcd : (s == ("__classdict__" : Str)) = false := by decide) (hg : Gl X "isinstance" := by rfl) (hst : starEach [.Name s q1, e] X.env = (false, eval (.Name s q1) X.env) :: starEach [e] X.env := by rfl) (hst2 : starEach [e] X.env = (false, eval e X.env) :: starEach [] X.env := by rfl) (hpl : (backTo pos (starEach [e] X.env)).any (·.1) = false := by rfl) :
    IE G (B.exc a cls d) W (X.suite a ((a, oe) :: pn)) (.Call (.Name "isinstance" q2) [.Name s q1, e] [] pos) (mIsE kt i m) := by
  have call : CallR (X.suite a ((a, oe) :: pn)) (.builtin "isinstance") (fun xs H Q => ∃ (v : V) (k : Nat) (cv : Value) (b : Bool), xs = [.ref a, v] ∧ cls = .ref (G.ca k) ∧ ExcOk X.K (G.ca k) ∧ (∀ dd, d = some dd → ∃ uf, H dd = some (.xd uf)) ∧ (∀ u, RelV v u → u = cv) ∧ PySem.W.kitOne X.K (.ref (G.ca k)) cv = some b ∧ Q (.bl b) H) := by
    intro pins s σ H xs us Q I r h
    obtain ⟨v, k, cv, b, rfl, ec, C, hdd, hcv, e, q⟩ := h
    cases r with
    | cons rx rr =>
      cases rr with
      | cons rt rr =>
        cases rr
        cases rx
        have e2 := hcv _ rt
        subst e2
        subst ec
        obtain ⟨hget, _⟩ := I.pin (a, oe) (List.mem_append.mpr (.inl List.mem_cons_self))
        obtain ⟨vs, hv⟩ := hf
        have J : ∃ od, PySem.W.InstAt s.heap a oe (G.ca k) od := by
          obtain ⟨oc, od, oda, osl⟩ := oe
          obtain ⟨h1, h2⟩ := hz
          dsimp only at h1 h2 hv
          subst h1 h2 hv
          cases od with
          | none => exact ⟨none, hget, rfl, rfl, trivial⟩
          | some dd =>
            obtain ⟨o, ho⟩ := hdd dd rfl
            obtain ⟨_, ⟨ob, _, _, hob, _⟩, _⟩ := I.hok dd _ ho
            exact ⟨some ob, hget, rfl, rfl, hob⟩
        obtain ⟨od, J⟩ := J
        exact PySem.W.kia_one (PySem.W.kitx_exc C.hcl C.hg C.hk C.hs C.ha C.hn C.ht C.hm) I.kIn J e (fun z => nomatch z) fun tk => ⟨.bl b, H, I.kept (t' := tk) fun _ _ z => z, rfl, q⟩
  refine PE.imp (pe_callB call hg hm hv2 (pa_cons (pv (X := X.suite a ((a, oe) :: pn)) i hN hv hd hcd) (pa_cons he pa_nil hst2) hst) (he := hst) (hpl := hpl)) fun σ H Q ⟨c, τ, L, eH, r, s, p⟩ => ?_
  subst eH
  unfold mIsE at p
  split at p
  · rename_i k fs q
    obtain ⟨P, S, l, t, e1, e2, y, _⟩ := s.focus q
    cases y with
    | val q => cases q
    | mE rx =>
      refine ⟨_, e2, c, τ, L, rfl, r, s, (Post.bind (R := RV G) p).imp fun u H1 ⟨c1, v, e1, N1, x1, p1⟩ => ?_⟩
      subst e1
      cases q1 : clsA v with
      | none => rw [q1] at p1; exact p1.elim
      | some t =>
        rw [q1] at p1
        simp only at p1
        cases q2 : kt t (.own k) with
        | none => rw [q2] at p1; exact p1.elim
        | some b =>
          rw [q2] at p1
          have rx1 := rx.mono N1.mv
          have cv := cls_rv x1 q1
          refine ⟨u, k, G.tv t, b, rfl, rx1.1, hk.exc t k b q2, fun dd ed => ?_, fun w rw' => cv.eq rw', hk.kit t k b q2, fin N1.rel .bl p1⟩
          rcases rx1.2 with ⟨_, z⟩ | ⟨dd', uf, ed', hdd, _, _⟩
          · rcases z with z | ⟨n, z⟩
            · have ed2 : d = some dd := ed
              have z2 : d = none := z
              rw [z2] at ed2; cases ed2
            · cases z
          · have ed2 : d = some dd := ed
            have z2 : d = some dd' := ed'
            rw [ed2] at z2
            cases z2
            exact ⟨_, hdd⟩
  · exact p.elim
end
end PI
/-! PIr: what the printed texts lean on. -/
namespace PI
open PySem PySem.Spec PyProof.Rows L2 ClX
def mkNm (l : List Str) (i : Nat) : Str := match l[i]? with
  | some x => x
  | none => ⟨Array.replicate (i + 50) 0⟩
theorem mkNm_inj {l : List Str} (h : l.Nodup) (hl : ∀ x, x ∈ l → x.cps.size < 50) : ∀ i j, mkNm l i = mkNm l j → i = j := by
  intro i j e
  unfold mkNm at e
  cases q : l[i]? with
  | none =>
    cases q2 : l[j]? with
    | none =>
      rw [q, q2] at e
      simp only at e
      have e2 := congrArg (fun s : Str => s.cps.size) e
      simp at e2
      exact e2
    | some y =>
      rw [q, q2] at e
      simp only at e
      have := hl y (List.mem_of_getElem? q2)
      rw [← e] at this
      simp at this
      omega
  | some x =>
    cases q2 : l[j]? with
    | none =>
      rw [q, q2] at e
      simp only at e
      have := hl x (List.mem_of_getElem? q)
      rw [e] at this
      simp at this
      omega
    | some y =>
      rw [q, q2] at e
      simp only at e
      subst e
      exact (List.getElem?_inj (List.getElem?_eq_some_iff.mp q).1 h).mp (q.trans q2.symm)
def mkG (K : PySem.W.Frag) (cs fs ds : List Addr) (l : List Str) (h : l.Nodup) (hl : ∀ x, x ∈ l → x.cps.size < 50) : Gx :=
  ⟨K, fun k => cs.getD k 0, fun k => fs.getD k 0, fun k => ds.getD k 0, mkNm l, mkNm_inj h hl⟩
theorem fa0 {P : Nat → Prop} : ∀ k, k ∈ ([] : List Nat) → P k := fun k h => by simp at h
theorem fa1 {P : Nat → Prop} {a : Nat} {l : List Nat} (x : P a) (h : ∀ k, k ∈ l → P k) : ∀ k, k ∈ a :: l → P k := fun k q => by
  rcases List.mem_cons.mp q with q | q
  · rw [q]; exact x
  · exact h k q
/-! the classes' order -/
def ktT (n : String) : Bool := n = "NoneType" || n = "bool" || n = "int" || n = "str" || n = "tuple" || n = "list" || n = "dict"
def ktB (a n : String) : Option Bool := if a = n then some true else if a = "int" ∧ n = "bool" then some true else if ktT a = true ∧ ktT n = true then some false else none
theorem ktB_ok {K : PySem.W.Frag} {a n : String} {b : Bool} (ha : ktT a = true) (hn : ktT n = true) (e : ktB a n = some b) : PySem.W.kitOne K (.type n) (.type a) = some b := by
  unfold ktT at ha hn
  simp only [Bool.or_eq_true, decide_eq_true_eq] at ha hn
  rcases ha with (((((rfl | rfl) | rfl) | rfl) | rfl) | rfl) | rfl <;> rcases hn with (((((rfl | rfl) | rfl) | rfl) | rfl) | rfl) | rfl <;> (simp [ktB, ktT] at e; subst e; rfl)
/-- f: own class against own; g: own against a built-in; h: built-in against own -/
def ktOf (f : Nat → Nat → Option Bool) (g : Nat → String → Option Bool) (h : String → Nat → Option Bool) : AT → AT → Option Bool
  | .ty a, .ty n => if ktT a && ktT n then ktB a n else none
  | .own k, .own j => f k j
  | .own k, .ty n => g k n
  | .ty a, .own j => h a j
theorem kit_all {G : Gx} {K : PySem.W.Frag} {f : Nat → Nat → Option Bool} {g : Nat → String → Option Bool} {h : String → Nat → Option Bool}
    (hf : ∀ k j b, f k j = some b → PySem.W.kitOne K (.ref (G.ca j)) (.ref (G.ca k)) = some b) (hg : ∀ k n b, g k n = some b → PySem.W.kitOne K (.type n) (.ref (G.ca k)) = some b)
    (hh : ∀ a j b, h a j = some b → PySem.W.kitOne K (.ref (G.ca j)) (.type a) = some b) :
    ∀ q t b, ktOf f g h q t = some b → PySem.W.kitOne K (G.tv t) (G.tv q) = some b := by
  intro q t b e
  cases q with
  | ty a =>
    cases t with
    | ty n =>
      simp only [ktOf] at e
      by_cases hh : (ktT a && ktT n) = true
      · rw [if_pos hh] at e
        rw [Bool.and_eq_true] at hh
        exact ktB_ok hh.1 hh.2 e
      · rw [if_neg hh] at e; cases e
    | own j => exact hh a j b e
  | own k =>
    cases t with
    | ty n => exact hg k n b e
    | own j => exact hf k j b e
def ktf0 : Nat → Nat → Option Bool := fun _ _ => none
def ktg0 : Nat → String → Option Bool := fun _ _ => none
def kth0 : String → Nat → Option Bool := fun _ _ => none
/-- pairs told one by one -/
def ktF (l : List ((Nat × Nat) × Bool)) (k j : Nat) : Option Bool := l.lookup (k, j)
def ktH (l : List ((String × Nat) × Bool)) (a : String) (j : Nat) : Option Bool := l.lookup (a, j)
theorem lookup_all {α β : Type} [BEq α] [LawfulBEq α] {P : α → β → Prop} : ∀ {l : List (α × β)}, (∀ p, p ∈ l → P p.1 p.2) → ∀ {a : α} {b : β}, l.lookup a = some b → P a b
  | [], _, a, b, e => by simp at e
  | (x, y) :: r, h, a, b, e => by
    rw [List.lookup_cons] at e
    by_cases q : a == x
    · rw [q] at e
      simp only at e
      cases e
      rw [eq_of_beq q]
      exact h _ List.mem_cons_self
    · rw [Bool.not_eq_true] at q
      rw [q] at e
      exact lookup_all (fun p hp => h p (List.mem_cons_of_mem _ hp)) e
theorem al0 {α : Type} {P : α → Prop} : ∀ p, p ∈ ([] : List α) → P p := fun p h => by simp at h
theorem al1 {α : Type} {P : α → Prop} {a : α} {l : List α} (x : P a) (h : ∀ p, p ∈ l → P p) : ∀ p, p ∈ a :: l → P p := fun p q => by
  rcases List.mem_cons.mp q with q | q
  · rw [q]; exact x
  · exact h p q
/-- which errors a clause takes -/
def mtOf (l : List (Nat × Bool)) : XC → Option Bool
  | .own k => l.lookup k
  | .bi _ => none
theorem mt_ok {G : Gx} {K : PySem.W.Frag} {l : List (Nat × Bool)} {c : Value} (h : ∀ p, p ∈ l → PySem.W.exmOne K (.ref (G.ca p.1)) c = some p.2) : ∀ y b, mtOf l y = some b → PySem.W.exmOne K (G.xv y) c = some b := by
  intro y b e
  cases y with
  | own k => exact lookup_all (P := fun k b => PySem.W.exmOne K (.ref (G.ca k)) c = some b) h e
  | bi n => cases e
theorem gv_str {G : Gx} {x : Str} (h : PyData.strOk x = true := by decide +kernel) : GV G (.str x) (.str x) := fun _ => .str h
theorem gv_int {G : Gx} {i : Int} : GV G (.int i) (.int i) := fun _ => .int
theorem gv_tup {G : Gx} {a : Addr} {o : Obj} {its : Array Value} {n : Nat} {xs : List AV} {us : List V} (h : G.K.lookup a = some o) (h1 : o.cls = .type "tuple") (h2 : o.data = .seq its n) (hs : its.size ≤ sizeLine) (hv : Vals us its.toList) (g : GVs G xs us) : GV G (.tup xs) (.ref a) :=
  fun c => .tupK ⟨o, its, n, h, h1, h2, hs, hv⟩ (g c)
theorem gv_lst {G : Gx} {a : Addr} {o : Obj} {its : Array Value} {n : Nat} {xs : List AV} {us : List V} (h : G.K.lookup a = some o) (h1 : o.cls = .type "list") (kth0 : o.dict = none) (h2 : o.data = .seq its n) (hs : its.size ≤ sizeLine) (hv : Vals us its.toList) (g : GVs G xs us) : GV G (.fl xs) (.ref a) :=
  fun c => .flK ⟨o, its, n, h, h1, kth0, h2, hs, hv⟩ (g c)
theorem kes_str {G : Gx} {d : DictEntry} {x v : Str} {t t2 : Tok} {ds : List DictEntry} {tb : List (Str × AV)} (h1 : d.key = .str x t) (h2 : d.val = .str v t2) (r : KEs G ds tb) (k : PyData.strOk v = true := by decide +kernel) : KEs G (d :: ds) ((x, .str v) :: tb) :=
  .cons (v0 := .str v) h1 ⟨_, h2⟩ (gv_str k) r
theorem kes_int {G : Gx} {d : DictEntry} {x : Str} {v : Int} {t t2 : Tok} {ds : List DictEntry} {tb : List (Str × AV)} (h1 : d.key = .str x t) (h2 : d.val = .int v t2) (r : KEs G ds tb) : KEs G (d :: ds) ((x, .int v) :: tb) :=
  .cons (v0 := .int v) h1 ⟨_, h2⟩ gv_int r
theorem pl_non : plainV .non = true := Eq.trans rfl rfl
theorem pl_bl {b : Bool} : plainV (.bl b) = true := Eq.trans rfl rfl
theorem pl_int {i : Int} : plainV (.int i) = true := Eq.trans rfl rfl
theorem pl_str {x : Str} : plainV (.str x) = true := Eq.trans rfl rfl
theorem pl_tup {x : List AV} : plainV (.tup x) = true := Eq.trans rfl rfl
theorem pl_fl {x : List AV} : plainV (.fl x) = true := Eq.trans rfl rfl
theorem pl_fd {x : List (Key × AV)} : plainV (.fd x) = true := Eq.trans rfl rfl
theorem pl_ref {n : Nat} : plainV (.ref n) = true := Eq.trans rfl rfl
theorem pl_cls {n : Nat} : plainV (.cls n) = true := Eq.trans rfl rfl
theorem pl_ty {n : String} : plainV (.ty n) = true := Eq.trans rfl rfl
theorem pl_fn {n : Nat} : plainV (.fn n) = true := Eq.trans rfl rfl
theorem pl_kd {n : Nat} : plainV (.kd n) = true := Eq.trans rfl rfl
theorem pl_obj {c : Nat} {fs : List (Nat × AV)} : plainV (.obj c fs) = true := Eq.trans rfl rfl
theorem noE_nil : noE [] = true := rfl
theorem noE_none {τ : AS} : noE (none :: τ) = noE τ := by unfold noE; rw [List.all_cons, Bool.true_and]
theorem noE_some {v : AV} {τ : AS} (p : plainV v = true) : noE (some v :: τ) = noE τ := by
  unfold noE
  rw [List.all_cons]
  cases v <;> first | rfl | (simp [plainV] at p; done) | exact Bool.true_and _
theorem noE_mL {x : List AV} {τ : AS} : noE (some (.mL x) :: τ) = noE τ := by unfold noE; rw [List.all_cons, Bool.true_and]
theorem noE_mD {x : List (Key × AV)} {τ : AS} : noE (some (.mD x) :: τ) = noE τ := by unfold noE; rw [List.all_cons, Bool.true_and]
theorem noE_mI {k : Nat} {x : List (Nat × AV)} {τ : AS} : noE (some (.mI k x) :: τ) = noE τ := by unfold noE; rw [List.all_cons, Bool.true_and]
theorem seq_nx {a b : MS} {τ τ1 : AS} {h h1 : AH} (e : a τ h = .nx τ1 h1) : sSeq a b τ h = b τ1 h1 := by
  unfold sSeq; rw [e]
theorem if_no {c : MT} {a b : MS} {τ : AS} {h h1 : AH} (e : c τ h = .ok false h1) : sIf c a b τ h = b τ h1 := by
  unfold sIf; rw [e]; rfl
theorem if_yes {c : MT} {a b : MS} {τ : AS} {h h1 : AH} (e : c τ h = .ok true h1) : sIf c a b τ h = a τ h1 := by
  unfold sIf; rw [e]; rfl
/-- what compares equal to itself -/
def selfB (v : AV) : Bool := match dat 12 v with
  | some d => PyData.eqv d d
  | none => false
theorem ne_self {v : AV} (e : selfB v = true) (h : AH) : kNe v v h = some (.bl false, h) := by
  unfold selfB at e
  unfold kNe
  cases q : dat 12 v with
  | none => rw [q] at e; cases e
  | some d => rw [q] at e; simp only at e ⊢; rw [e]; rfl
theorem eq_self' {v : AV} (e : selfB v = true) (h : AH) : kEq v v h = some (.bl true, h) := by
  unfold selfB at e
  unfold kEq
  cases q : dat 12 v with
  | none => rw [q] at e; cases e
  | some d => rw [q] at e; simp only at e ⊢; rw [e]
/-- a loop over a list, a promise about the slots and the heap kept -/
theorem forL_inv {g : MG} {b : MS} (I : AS → AH → Prop) : ∀ (vs : List AV), (∀ v, v ∈ vs → ∀ τ h, I τ h → ∃ τ1 τ2 h2, g v τ = some τ1 ∧ b τ1 h = .nx τ2 h2 ∧ I τ2 h2) → ∀ τ h, I τ h → ∃ τ' h', forL g b vs τ h = .nx τ' h' ∧ I τ' h'
  | [], _, τ, h, i => ⟨τ, h, rfl, i⟩
  | v :: r, H, τ, h, i => by
    obtain ⟨τ1, τ2, h2, e1, e2, i2⟩ := H v (by simp) τ h i
    obtain ⟨τ', h', e3, i3⟩ := forL_inv I r (fun w hw => H w (by simp [hw])) τ2 h2 i2
    refine ⟨τ', h', ?_, i3⟩
    rw [forL, e1]
    simp only
    rw [e2]
    exact e3
/-- the law's promise to its caller -/
def spLaw (K : PySem.W.Frag) : Sp := fun vs H Q _ => ∃ (a : Addr) (ns : List Int), vs = [.ref a] ∧ SqL K H a (ns.map V.int) ∧ ns.length ≤ 63 ∧ ∀ H', Q (.bl true) H'
theorem rvs_ints {G : Gx} {c : Cfg} : ∀ (ns : List Int), RVs G c (ns.map AV.int) (ns.map V.int)
  | [] => .nil
  | n :: r => .cons .int (rvs_ints r)
theorem law_end {P : Program} {w : World} {K : PySem.W.Frag} {mg : Str → Option Value} {base : Heap} {G : Gx} {f : Addr} {fd : FuncData} {k : Nat} {x : Str} {m : FN} (hK : K = G.K) (F : FnOk P w K mg base (L2.CX P w) k f fd [x] (spF G 1 m))
    (h : ∀ ns : List Int, ns.length ≤ 63 → ∃ h', m [.fl (ns.map .int)] [] = .ok (.bl true) h') : FnOk P w K mg base (L2.CX P w) k f fd [x] (spLaw K) := F.imp fun vs H Q E ⟨a, ns, e, S, hl, q⟩ => by
  subst e
  obtain ⟨h', e⟩ := h ns hl
  let c : Cfg := ⟨fun _ => False, fun _ => 0, [], H⟩
  have r : Rel G c := ⟨fun n o e => by simp [c] at e, fun n m o o' e => by simp [c] at e, fun a z => z.elim⟩
  have fz : Frz c a := ⟨fun n o e => by simp [c] at e, fun z => z⟩
  refine ⟨c, [.fl (ns.map .int)], rfl, r, .cons ?_ .nil, rfl, ?_⟩
  · rcases S with S | S
    · exact .fl S fz (rvs_ints ns)
    · exact .flK (by rw [← hK]; exact S) (rvs_ints ns)
  · show Post G (RV G) c E Q (m _ [])
    rw [e]
    intro c' u N e2 x2
    cases x2
    exact q _
end PI
/-! PIt: methods of texts, 'is' of bools. -/
namespace PI
open PySem PySem.Spec PyProof.Rows L2 ClX
def kIsB (neg : Bool) (v w : AV) (h : AH) : Option (AV × AH) := match v, w with
  | .bl a, .bl b => some (.bl (if neg then !decide (a = b) else decide (a = b)), h)
  | _, _ => none
def rIsBl (neg : Bool) : R2 := fun x y H Q => ∃ a b : Bool, x = .bl a ∧ y = .bl b ∧ Q (.bl (if neg then !decide (a = b) else decide (a = b))) H
/-- a method of a text with one argument; the text is looked at first -/
def mM1 (k : Str → AV → AH → Option (AV × AH)) (mo me : ME) : ME := fun τ h => (mo τ h).bind fun v h => match v with
  | .str a => (me τ h).bind fun w h => .of (k a w h)
  | _ => .stuck
def mM0 (k : Str → AH → Option (AV × AH)) (mo : ME) : ME := fun τ h => (mo τ h).bind fun v h => match v with
  | .str a => .of (k a h)
  | _ => .stuck
def txtOk (n : Nat) : Bool := decide (n ≤ 1000000)
def kSplit (a : Str) (w : AV) (h : AH) : Option (AV × AH) := match w with
  | .str b => if b.length != 0 && txtOk a.length && (Txt.split a b).all PyData.strOk then some (.fl ((Txt.split a b).map .str), h) else none
  | _ => none
def kPart (a : Str) (w : AV) (h : AH) : Option (AV × AH) := match w with
  | .str b => if b.length != 0 && txtOk a.length && (PyData.strOk (Txt.partition a b).1 && PyData.strOk (Txt.partition a b).2.1 && PyData.strOk (Txt.partition a b).2.2) then some (.tup [.str (Txt.partition a b).1, .str (Txt.partition a b).2.1, .str (Txt.partition a b).2.2], h) else none
  | _ => none
def strsOf : List AV → Option (List Str)
  | [] => some []
  | .str x :: r => (strsOf r).map (x :: ·)
  | _ => none
def kJoin (a : Str) (w : AV) (h : AH) : Option (AV × AH) := (seqOf w).bind fun xs => (strsOf xs).bind fun ys =>
  if decide ((ys.map (·.length)).sum + ys.length * a.length ≤ 1000000) && PyData.strOk (Txt.join a ys) then some (.str (Txt.join a ys), h) else none
def kStarts (a : Str) (w : AV) (h : AH) : Option (AV × AH) := match w with
  | .str b => some (.bl (Txt.startswith a b), h)
  | _ => none
section
variable {G : Gx} {B : Bx} {zs : Addr → Prop} {W : WX} {X : Cx} {c c' : Cfg} {L : List Addr} {τ : AS} {σ : SL} {pos pos' p apos : Pos} {e o : Expr} {es : List Expr} {m n mo me : ME} {ma : MA} {mt : MT} {x s : Str} {i : Nat}
theorem op_isB : OpR X (compareOp .Is) (rIsBl false) := op_isBl
theorem op_notB : OpR X (compareOp .IsNot) (rIsBl true) := op_notBl
theorem ao_isB (neg : Bool) : AO2 G (kIsB neg) (rIsBl neg) := fun c v w u x Q r xv xw p => by
  cases v with
  | bl a =>
    cases w with
    | bl b => cases xv; cases xw; exact ⟨a, b, rfl, rfl, post_fin r p .bl⟩
    | _ => exact p.elim
  | _ => cases w <;> exact p.elim
theorem txt_le {n : Nat} (e : txtOk n = true) : n ≤ 1000000 := of_decide_eq_true e
/-- from the rule of a method with one argument -/
theorem m1_ok {r : V → List V → Hp → VK → Prop} {k : Str → AV → AH → Option (AV × AH)} (hk : ∀ c a w u Q, Rel G c → PyData.strOk a = true → RV G c w u → PostO G c Q (k a w c.h) → r (.str a) [u] c.H Q) {σ : SL} {H : Hp} {Q : VK} (t : tI G B W (mM1 k mo me) σ H Q) : tM1 r (tI G B W mo) (tI G B W me) σ H Q := by
  obtain ⟨c, τ, L, eH, rl, s, p⟩ := t
  refine ⟨c, τ, L, eH, rl, s, (Post.bind (R := RV G) p).imp fun u H1 ⟨c1, v, e1, N1, x1, p1⟩ => ?_⟩
  cases x1 with
  | @str a ka =>
    refine ⟨⟨a, rfl⟩, c1, τ, L, e1.symm, N1.rel, s.nxt N1, (Post.bind (R := RV G) p1).imp fun u2 H2 ⟨c2, w, e2, N2, x2, p2⟩ => ?_⟩
    subst e2
    exact hk c2 a w u2 Q N2.rel ka x2 (PostO.of p2)
  | _ => exact p1.elim
theorem m0_ok {r : V → List V → Hp → VK → Prop} {k : Str → AH → Option (AV × AH)} (hk : ∀ c a Q, Rel G c → PyData.strOk a = true → PostO G c Q (k a c.h) → r (.str a) [] c.H Q) {σ : SL} {H : Hp} {Q : VK} (t : tI G B W (mM0 k mo) σ H Q) : tM0 r (tI G B W mo) σ H Q := by
  obtain ⟨c, τ, L, eH, rl, s, p⟩ := t
  refine ⟨c, τ, L, eH, rl, s, (Post.bind (R := RV G) p).imp fun u H1 ⟨c1, v, e1, N1, x1, p1⟩ => ?_⟩
  cases x1 with
  | @str a ka =>
    subst e1
    exact ⟨⟨a, rfl⟩, hk c1 a Q N1.rel ka (PostO.of p1)⟩
  | _ => exact p1.elim
theorem rvs_strs : ∀ {ys : List Str}, ys.all PyData.strOk = true → RVs G c (ys.map AV.str) (ys.map V.str)
  | [], _ => .nil
  | y :: ys, h => by
    rw [List.all_cons, Bool.and_eq_true] at h
    exact .cons (.str h.1) (rvs_strs h.2)
theorem ne0 {n : Nat} (h : (n != 0) = true) : (n == 0) = false := by simpa using h
theorem ie_split (ho : IE G B W X o mo) (he : IE G B W X e me) (hs : starEach [e] X.env = [(false, eval e X.env)] := by rfl) (hbase : attributeBase o "split" X.env (eval o X.env) = eval o X.env := by rfl) (hline : (apos.endLine == pos.line) = true := by rfl) :
    IE G B W X (.Call (.Attribute o "split" apos) [e] [] pos) (mM1 kSplit mo me) := PE.imp (pe_split ho he hs hbase hline) fun σ H Q t => m1_ok (fun c a w u Q r ka x p => by
  cases x with
  | @str b kb =>
    unfold kSplit at p
    simp only at p
    by_cases h : (b.length != 0 && txtOk a.length && (Txt.split a b).all PyData.strOk) = true
    · rw [if_pos h] at p
      rw [Bool.and_eq_true, Bool.and_eq_true] at h
      exact ⟨a, b, rfl, rfl, ne0 h.1.1, Nat.le_trans (Nat.add_le_add_right (txt_le h.1.2) 2) (by rw [sizeLine_eq]; decide), post_lst r p (rvs_strs h.2)⟩
    · rw [if_neg h] at p; exact p.elim
  | _ => exact p.elim) t
theorem ie_partition (ho : IE G B W X o mo) (he : IE G B W X e me) (hs : starEach [e] X.env = [(false, eval e X.env)] := by rfl) (hbase : attributeBase o "partition" X.env (eval o X.env) = eval o X.env := by rfl) (hline : (apos.endLine == pos.line) = true := by rfl) :
    IE G B W X (.Call (.Attribute o "partition" apos) [e] [] pos) (mM1 kPart mo me) := PE.imp (pe_partition ho he hs hbase hline) fun σ H Q t => m1_ok (fun c a w u Q r ka x p => by
  cases x with
  | @str b kb =>
    unfold kPart at p
    simp only at p
    by_cases h : (b.length != 0 && txtOk a.length && (PyData.strOk (Txt.partition a b).1 && PyData.strOk (Txt.partition a b).2.1 && PyData.strOk (Txt.partition a b).2.2)) = true
    · rw [if_pos h] at p
      rw [Bool.and_eq_true, Bool.and_eq_true, Bool.and_eq_true, Bool.and_eq_true] at h
      exact ⟨a, b, rfl, rfl, ne0 h.1.1, Nat.le_trans (txt_le h.1.2) (by rw [sizeLine_eq]; decide), post_tup r p (.cons (.str h.2.1.1) (.cons (.str h.2.1.2) (.cons (.str h.2.2) .nil)))⟩
    · rw [if_neg h] at p; exact p.elim
  | _ => exact p.elim) t
theorem strs_rv : ∀ {xs : List AV} {ys : List Str} {us : List V}, strsOf xs = some ys → RVs G c xs us → us = ys.map V.str
  | [], ys, us, e, x => by cases x; simp [strsOf] at e; subst e; rfl
  | v :: r, ys, us, e, x => by
    cases x with
    | cons x xr =>
      cases x with
      | @str z kz =>
        simp only [strsOf] at e
        cases q : strsOf r with
        | none => rw [q] at e; cases e
        | some zs =>
          rw [q] at e
          cases e
          rw [strs_rv q xr]
          rfl
      | _ => simp [strsOf] at e
theorem ie_join (hK : X.K = G.K) (ho : IE G B W X o mo) (he : IE G B W X e me) (hs : starEach [e] X.env = [(false, eval e X.env)] := by rfl) (hbase : attributeBase o "join" X.env (eval o X.env) = eval o X.env := by rfl) (hline : (apos.endLine == pos.line) = true := by rfl) :
    IE G B W X (.Call (.Attribute o "join" apos) [e] [] pos) (mM1 kJoin mo me) := PE.imp (pe_join ho he hs hbase hline) fun σ H Q t => m1_ok (fun c a w u Q r ka x p => by
  unfold kJoin at p
  cases q : seqOf w with
  | none => rw [q] at p; exact p.elim
  | some xs =>
    rw [q] at p
    simp only [Option.bind_some] at p
    cases q2 : strsOf xs with
    | none => rw [q2] at p; exact p.elim
    | some ys =>
      rw [q2] at p
      simp only [Option.bind_some] at p
      by_cases h : (decide ((ys.map (·.length)).sum + ys.length * a.length ≤ 1000000) && PyData.strOk (Txt.join a ys)) = true
      · rw [if_pos h] at p
        rw [Bool.and_eq_true] at h
        have hl := of_decide_eq_true h.1
        have sq : ∃ b us, u = .ref b ∧ (SqL X.K c.H b us ∨ SqT X.K c.H b us) ∧ RVs G c xs us := by
          cases w with
          | fl zs => cases q; obtain ⟨b, us, e, h, y⟩ := rv_list hK x; exact ⟨b, us, e, .inl h, y⟩
          | tup zs => cases q; obtain ⟨b, us, e, h, y⟩ := rv_tup hK x; exact ⟨b, us, e, .inr h, y⟩
          | _ => cases q
        obtain ⟨b, us, rfl, sq, y⟩ := sq
        rw [strs_rv q2 y] at sq
        exact ⟨a, b, ys, rfl, rfl, sq, by omega, post_fin r p (.str h.2)⟩
      · rw [if_neg h] at p; exact p.elim) t
/-! a, b = x, y -/
def sPar (i j : Nat) (ma : MA) : MS := fun τ h => (ma τ h).bindS τ fun vs h => match vs with
  | [v, w] => if i < τ.length ∧ j < τ.length then .nx ((τ.set i (some v)).set j (some w)) h else .stuck
  | _ => .stuck
def sPar3 (i j l : Nat) (ma : MA) : MS := fun τ h => (ma τ h).bindS τ fun vs h => match vs with
  | [v, w, z] => if i < τ.length ∧ j < τ.length ∧ l < τ.length then .nx (((τ.set i (some v)).set j (some w)).set l (some z)) h else .stuck
  | _ => .stuck
theorem RS.put' {L : List Addr} {i : Nat} {v : AV} {u : V} (r : Rel G c) (o : Own zs L c) (s : RS G B c L τ σ) (hi : i < τ.length) (x : RV G c v u) :
    ∃ L', Stp G zs L c L' c ∧ RS G B c L' (τ.set i (some v)) (σ.set i (some u)) := RS.put r o s hi x
theorem is_par {a b : Expr} {x y : Str} {px py pt pt2 : Pos} {kt k2 : Nat} (i j : Nat) (hN : X.N.Nodup) (ha : IA G B W X [a, b] ma) (hij : i ≠ j := by decide) (hc : X.calm = true := by rfl) (hi : X.N[i]? = some x := by rfl) (hj : X.N[j]? = some y := by rfl)
    (hx : X.env.scope.names.lookup x = some .local := by rfl) (hy : X.env.scope.names.lookup y = some .local := by rfl)
    (hw : swappedStores [.Tuple [.Name x px, .Name y py] kt pt] (.Tuple [a, b] k2 pt2) X.env = pure (some [x, y]) := by rfl)
    (hs : swapsWithSole [.Tuple [.Name x px, .Name y py] kt pt] (.Tuple [a, b] k2 pt2) pos.line X.env = pure false := by rfl) :
    IS G B zs W X (.Assign [.Tuple [.Name x px, .Name y py] kt pt] (.Tuple [a, b] k2 pt2) pos) (sPar i j ma) := PS.imp (ps_par hc hN hi hj hij hx hy ha hw hs) fun D σ H ⟨c, τ, L, eH, r, o, s, p⟩ => by
  refine ⟨c, τ, L, eH, r, s, (PostS.bindS (R := RVs G) o s p).imp fun us H1 ⟨c1, vs, e1, N1, x1, p1⟩ => ?_⟩
  subst e1
  match vs, x1 with
  | [v, w], .cons xv (.cons xw .nil) =>
    simp only at p1
    by_cases hl : i < τ.length ∧ j < τ.length
    · rw [if_pos hl] at p1
      obtain ⟨L1, S1, s1⟩ := RS.put N1.rel (o.nxt N1) (s.nxt N1) hl.1 xv
      obtain ⟨L2, S2, s2⟩ := RS.put S1.rel S1.own s1 (by simpa using hl.2) xw
      exact ⟨_, _, rfl, p1 c1 L2 _ (S1.trans S2) rfl s2⟩
    · rw [if_neg hl] at p1; exact p1.elim
  | [], _ => exact p1.elim
  | [_], _ => exact p1.elim
  | _ :: _ :: _ :: _, _ => exact p1.elim
theorem is_par3 {a b d : Expr} {x y z : Str} {px py pz pt pt2 : Pos} {kt k2 : Nat} (i j l : Nat) (hN : X.N.Nodup) (ha : IA G B W X [a, b, d] ma) (hij : i ≠ j := by decide) (hil : i ≠ l := by decide) (hjl : j ≠ l := by decide) (hc : X.calm = true := by rfl) (hi : X.N[i]? = some x := by rfl) (hj : X.N[j]? = some y := by rfl) (hl : X.N[l]? = some z := by rfl)
    (hx : X.env.scope.names.lookup x = some .local := by rfl) (hy : X.env.scope.names.lookup y = some .local := by rfl) (hz : X.env.scope.names.lookup z = some .local := by rfl)
    (hw : swappedStores [.Tuple [.Name x px, .Name y py, .Name z pz] kt pt] (.Tuple [a, b, d] k2 pt2) X.env = pure (some [x, y, z]) := by rfl)
    (hs : swapsWithSole [.Tuple [.Name x px, .Name y py, .Name z pz] kt pt] (.Tuple [a, b, d] k2 pt2) pos.line X.env = pure false := by rfl) :
    IS G B zs W X (.Assign [.Tuple [.Name x px, .Name y py, .Name z pz] kt pt] (.Tuple [a, b, d] k2 pt2) pos) (sPar3 i j l ma) := PS.imp (ps_par3 hc hN hi hj hl hij hil hjl hx hy hz ha hw hs) fun D σ H ⟨c, τ, L, eH, r, o, s, p⟩ => by
  refine ⟨c, τ, L, eH, r, s, (PostS.bindS (R := RVs G) o s p).imp fun us H1 ⟨c1, vs, e1, N1, x1, p1⟩ => ?_⟩
  subst e1
  match vs, x1 with
  | [v, w, t], .cons xv (.cons xw (.cons xt .nil)) =>
    simp only at p1
    by_cases hl : i < τ.length ∧ j < τ.length ∧ l < τ.length
    · rw [if_pos hl] at p1
      obtain ⟨L1, S1, s1⟩ := RS.put N1.rel (o.nxt N1) (s.nxt N1) hl.1 xv
      obtain ⟨L2, S2, s2⟩ := RS.put S1.rel S1.own s1 (by simpa using hl.2.1) xw
      obtain ⟨L3, S3, s3⟩ := RS.put S2.rel S2.own s2 (by simpa using hl.2.2) xt
      exact ⟨_, _, _, rfl, p1 c1 L3 _ ((S1.trans S2).trans S3) rfl s3⟩
    · rw [if_neg hl] at p1; exact p1.elim
  | [], _ => exact p1.elim
  | [_], _ => exact p1.elim
  | [_, _], _ => exact p1.elim
  | _ :: _ :: _ :: _ :: _, _ => exact p1.elim
end
end PI
/-! PIu: lists of the plain heap, list(..), comprehensions. -/
namespace PI
open PySem PySem.Spec PyProof.Rows L2 ClX
/-! ### a method of a list of the plain heap -/
def mBMl (k : Nat → List AV → AH → Option (AV × AH)) (mo : ME) (ma : MA) : ME := fun τ h => (mo τ h).bind fun v h => match v with
  | .ref n => match h[n]? with
    | some (some (.lst _)) => (ma τ h).bind fun vs h => .of (k n vs h)
    | _ => .stuck
  | _ => .stuck
def kAppR (n : Nat) (vs : List AV) (h : AH) : Option (AV × AH) := match vs, h[n]? with
  | [y], some (some (.lst xs)) => if small (xs.length + 1) then some (.non, h.set n (some (.lst (xs ++ [y])))) else none
  | _, _ => none
def kPopR (n : Nat) (vs : List AV) (h : AH) : Option (AV × AH) := match vs, h[n]? with
  | [.int i], some (some (.lst xs)) => if small xs.length then (ixN xs.length i).bind fun j => (xs[j]?).map fun y => (y, h.set n (some (.lst (xs.eraseIdx j)))) else none
  | _, _ => none
/-- an object of the plain heap becomes a value -/
def killA (v : AV) (h : AH) : Res AV := match v with
  | .ref n => match h[n]? with
    | some (some (.lst xs)) => .ok (.fl xs) (h.set n none)
    | some (some (.dk xs)) => .ok (.fd xs) (h.set n none)
    | some (some (.ins k fs)) => .ok (.obj k fs) (h.set n none)
    | _ => .stuck
  | v => .ok v h
def mKill (m : ME) : ME := fun τ h => (m τ h).bind fun v h => killA v h
section
variable {G : Gx} {B : Bx} {zs : Addr → Prop} {W : WX} {X : Cx} {c c' : Cfg} {L : List Addr} {τ : AS} {σ : SL} {pos pos' p apos cpos : Pos} {e o : Expr} {es : List Expr} {m n mo me : ME} {ma : MA} {mt : MT} {x s : Str} {i : Nat}
theorem ie_kill (he : IE G B W X e m) : IE G B W X e (mKill m) := PE.imp he fun σ H Q ⟨c, τ, L, eH, rl, s, p⟩ => by
  refine ⟨c, τ, L, eH, rl, s, ?_⟩
  unfold mKill at p
  revert p
  cases m τ c.h with
  | exc y fy h1 => exact fun p => p
  | stuck => exact fun p => p
  | ok v h1 =>
    intro p c1 u N1 e1 x1
    subst e1
    have p : Post G (RV G) c (fun k d H' => W k d σ H') Q (killA v c1.h) := p
    have p := Post.trans N1 p
    unfold killA at p
    cases x1 with
    | @ref n hn =>
      simp only at p
      split at p
      · rename_i xs q
        obtain ⟨us, q1, y⟩ := lst_at N1.rel q
        have N2 := Nxt.kill (n := n) N1.rel
        exact p { c1 with h := c1.h.set n none } _ N2 rfl (.fl (.inl q1) (kill_frz N1.rel q) (y.mono N2.mv))
      · rename_i xs q
        obtain ⟨us, q1, y⟩ := N1.rel.obj n _ q
        have N2 := Nxt.kill (n := n) N1.rel
        exact p { c1 with h := c1.h.set n none } _ N2 rfl (.fd (.inl q1) (kill_frz N1.rel q) (y.mono N2.mv))
      · rename_i k fs q
        obtain ⟨dx, us, q1, y⟩ := N1.rel.obj n _ q
        have N2 := Nxt.kill (n := n) N1.rel
        exact p { c1 with h := c1.h.set n none } _ N2 rfl (.obj q1 (kill_frz N1.rel q) (y.mono N2.mv))
      · exact p.elim
    | non => exact p c1 _ (.refl N1.rel) rfl .non
    | bl => exact p c1 _ (.refl N1.rel) rfl .bl
    | int => exact p c1 _ (.refl N1.rel) rfl .int
    | str k => exact p c1 _ (.refl N1.rel) rfl (.str k)
    | ty => exact p c1 _ (.refl N1.rel) rfl .ty
    | cls => exact p c1 _ (.refl N1.rel) rfl .cls
    | fn => exact p c1 _ (.refl N1.rel) rfl .fn
    | kd => exact p c1 _ (.refl N1.rel) rfl .kd
    | tup a b d => exact p c1 _ (.refl N1.rel) rfl (.tup a b d)
    | tupK a b => exact p c1 _ (.refl N1.rel) rfl (.tupK a b)
    | fl a b d => exact p c1 _ (.refl N1.rel) rfl (.fl a b d)
    | flK a b => exact p c1 _ (.refl N1.rel) rfl (.flK a b)
    | fd a b d => exact p c1 _ (.refl N1.rel) rfl (.fd a b d)
    | obj a b d => exact p c1 _ (.refl N1.rel) rfl (.obj a b d)
theorem bml_ok {k : Nat → List AV → AH → Option (AV × AH)} {r : V → List V → Hp → VK → Prop} (hk : ∀ c n vs us Q, Rel G c → RVs G c vs us → PostO G c Q (k n vs c.h) → r (.ref (c.rho n)) us c.H Q) {σ : SL} {H : Hp} {Q : VK} (t : tI G B W (mBMl k mo ma) σ H Q) : tBM X.K "list" r (tI G B W mo) (tIa G B W ma) σ H Q := by
  obtain ⟨c, τ, L, eH, rl, s, p⟩ := t
  refine ⟨c, τ, L, eH, rl, s, (Post.bind (R := RV G) p).imp fun u H1 ⟨c1, v, e1, N1, x1, p1⟩ => ?_⟩
  cases x1 with
  | @ref n hn =>
    simp only at p1
    split at p1
    · rename_i xs q
      obtain ⟨us, q1, y⟩ := lst_at N1.rel q
      refine ⟨.inl ⟨rfl, us, .inl (.inl (by rw [e1]; exact q1))⟩, c1, τ, L, e1.symm, N1.rel, s.nxt N1, (Post.bind (R := RVs G) p1).imp fun u2 H2 ⟨c2, w, e2, N2, x2, p2⟩ => ?_⟩
      subst e2
      rw [← N2.mv.same n hn]
      exact hk c2 n w u2 Q N2.rel x2 (PostO.of p2)
    · exact p1.elim
  | _ => exact p1.elim
theorem ie_appR (ho : IE G B W X o mo) (ha : IA G B W X [e] ma)
    (hbase : attributeBase o "append" X.env (eval o X.env) = eval o X.env := by rfl)
    (hfew : ((backTo cpos (starEach [e] X.env)).all (fun x => !x.1) && (backToKw cpos (keywordEach [] X.env)).all (fun x => x.1.isSome)
      && decide ([e].length + ([] : List Keyword).length + (if ([] : List Keyword).isEmpty then 0 else 1) < 30)) = true := by rfl)
    (hline : (apos.endLine == cpos.line) = true := by rfl) (hs : starEach [e] X.env = (false, eval e X.env) :: starEach [] X.env := by rfl) (hplain : (backTo cpos (starEach [] X.env)).any (·.1) = false := by rfl) :
    IE G B W X (.Call (.Attribute o "append" apos) [e] [] cpos) (mBMl kAppR mo ma) :=
  PE.imp (pe_bm PySem.F.plainAttrs_list PySem.F.slot_list_append PySem.F.type_list_append mt_append ho ha hbase hfew hline hs hplain) fun σ H Q t => bml_ok (X := X) (fun c n vs us Q r x p => by
    unfold kAppR at p
    split at p
    · rename_i y xs q
      obtain ⟨us', q1, y1⟩ := lst_at r q
      by_cases hl : small (xs.length + 1) = true
      · rw [if_pos hl] at p
        cases x with
        | cons xv xr =>
          cases xr
          have N := Nxt.write (o' := .lst (xs ++ [y])) (O := .lst (us' ++ [_])) r q fun c4 M e4 => ⟨_, e4, (RVs.append y1 (.cons xv .nil)).mono M⟩
          exact ⟨_, us', _, rfl, rfl, q1, by rw [← y1.length]; exact Nat.lt_of_lt_of_le (Nat.lt_succ_self _) (small_le hl), p _ _ N rfl .non⟩
      · rw [if_neg hl] at p; exact p.elim
    · exact p.elim) t
theorem RVs.erase : ∀ {xs : List AV} {us : List V} (j : Nat), RVs G c xs us → RVs G c (xs.eraseIdx j) (us.eraseIdx j)
  | _, _, _, .nil => .nil
  | _, _, 0, .cons _ t => t
  | _, _, j + 1, .cons r t => .cons r (RVs.erase j t)
theorem RVs.nth' : ∀ {xs : List AV} {us : List V} {j : Nat} {v : AV}, RVs G c xs us → xs[j]? = some v → ∃ u, us[j]? = some u ∧ RV G c v u
  | _, _, _, _, .nil, e => by simp at e
  | _, _, 0, _, .cons r t, e => by simp at e; subst e; exact ⟨_, rfl, r⟩
  | _, _, j + 1, _, .cons r t, e => by simp at e; obtain ⟨u, a, b⟩ := RVs.nth' t e; exact ⟨u, by simpa using a, b⟩
theorem ie_popR (ho : IE G B W X o mo) (ha : IA G B W X [e] ma)
    (hbase : attributeBase o "pop" X.env (eval o X.env) = eval o X.env := by rfl)
    (hfew : ((backTo cpos (starEach [e] X.env)).all (fun x => !x.1) && (backToKw cpos (keywordEach [] X.env)).all (fun x => x.1.isSome)
      && decide ([e].length + ([] : List Keyword).length + (if ([] : List Keyword).isEmpty then 0 else 1) < 30)) = true := by rfl)
    (hline : (apos.endLine == cpos.line) = true := by rfl) (hs : starEach [e] X.env = (false, eval e X.env) :: starEach [] X.env := by rfl) (hplain : (backTo cpos (starEach [] X.env)).any (·.1) = false := by rfl) :
    IE G B W X (.Call (.Attribute o "pop" apos) [e] [] cpos) (mBMl kPopR mo ma) :=
  PE.imp (pe_bm PySem.F.plainAttrs_list PySem.F.slot_list_pop PySem.F.type_list_pop mt_popAt ho ha hbase hfew hline hs hplain) fun σ H Q t => bml_ok (X := X) (fun c n vs us Q r x p => by
    unfold kPopR at p
    split at p
    · rename_i i xs q
      obtain ⟨us', q1, y1⟩ := lst_at r q
      by_cases hl : small xs.length = true
      · rw [if_pos hl] at p
        cases x with
        | cons xv xr =>
          cases xr
          cases xv
          cases q2 : ixN xs.length i with
          | none => rw [q2] at p; exact p.elim
          | some j =>
            rw [q2] at p
            simp only [Option.bind_some] at p
            cases q3 : xs[j]? with
            | none => rw [q3] at p; exact p.elim
            | some y =>
              rw [q3] at p
              obtain ⟨u, e4, y2⟩ := y1.nth' q3
              obtain ⟨s1, s2, s3, s4⟩ := ixN_seq q2
              have hz : xs.length ≤ 16777216 := of_decide_eq_true hl
              have N := Nxt.write (o' := .lst (xs.eraseIdx j)) (O := .lst (us'.eraseIdx j)) r q fun c4 M e4 => ⟨_, e4, (RVs.erase j y1).mono M⟩
              exact ⟨_, us', i, j, u, rfl, rfl, q1, by omega, by omega, by rw [← y1.length]; exact s1, e4, p _ _ N rfl (y2.mono N.mv)⟩
      · rw [if_neg hl] at p; exact p.elim
    · exact p.elim) t
/-! ### list(..) -/
def lstA (v : AV) (h : AH) : Option (List AV) := match v with
  | .fl xs => some xs
  | .tup xs => some xs
  | .str z => some (z.cps.toList.map fun k => .str ⟨#[k]⟩)
  | .ref n => match h[n]? with
    | some (some (.lst xs)) => some xs
    | _ => none
  | _ => none
/-- a list that nobody changes / one of the plain heap -/
def kListF (vs : List AV) (h : AH) : Option (AV × AH) := match vs with
  | [v] => (lstA v h).bind fun xs => if small xs.length then some (.fl xs, h) else none
  | _ => none
def kListR (vs : List AV) (h : AH) : Option (AV × AH) := match vs with
  | [v] => (lstA v h).bind fun xs => if small xs.length then some (.ref h.length, h ++ [some (.lst xs)]) else none
  | _ => none
def rListA (K : PySem.W.Frag) : List V → Hp → VK → Prop := fun xs H Q => (∃ p ys, xs = [.ref p] ∧ (SqL K H p ys ∨ SqT K H p ys) ∧ ∀ l, H l = none → Q (.ref l) (upd H l (.lst ys))) ∨
  ∃ z : Str, xs = [.str z] ∧ z.length ≤ sizeLine ∧ ∀ l, H l = none → Q (.ref l) (upd H l (.lst (z.cps.toList.map fun k => V.str ⟨#[k]⟩)))
theorem call_listA (hc : X.calm = true) : CallR X (.type "list") (rListA X.K) := by
  intro pins s σ H xs us Q I r h
  rcases h with h | ⟨z, rfl, hz, q⟩
  · exact call_list_of pins s σ H xs us Q I r h
  · cases r with
    | cons rx rr =>
      cases rr
      obtain ⟨t, rfl⟩ := rx
      refine call_list_str (I.ok.hd hc) z t (fun h' tk acc c' hk e hi => ?_) (by simpa [Str.length] using hz)
      refine ⟨.ref s.heap.objs.size, upd H s.heap.objs.size (.lst (z.cps.toList.map fun k => V.str ⟨#[k]⟩)), I.laid hk (Nat.le_refl _) ⟨by rw [List.length_map]; simpa [Str.length] using hz, acc.toList, c', ?_, by rw [Array.toArray_toList]; exact e⟩, rfl, q _ (I.hok.fresh (Nat.le_refl _))⟩
      refine vals_of_idx _ _ (by rw [List.length_map, Array.length_toList, Array.length_toList]; exact hi.1) fun j u hj => ?_
      obtain ⟨d, t', hd, rfl⟩ := hi.2 j u (by rw [← Array.getElem?_toList]; exact hj)
      exact ⟨.str ⟨#[d]⟩, by simp [hd], ⟨_, rfl⟩⟩
theorem chars_rv {z : Str} (k : PyData.strOk z = true) : RVs G c (z.cps.toList.map fun k => AV.str ⟨#[k]⟩) (z.cps.toList.map fun k => V.str ⟨#[k]⟩) := by
  have h : ∀ k, k ∈ z.cps.toList → k < 0x110000 := by
    unfold PyData.strOk at k
    rw [Array.all_eq_true'] at k
    intro j hj
    simpa using k j (by simpa using hj)
  generalize z.cps.toList = l at h
  induction l with
  | nil => exact .nil
  | cons a l ih => exact .cons (.str (by unfold PyData.strOk; simpa using h a (by simp))) (ih fun k hk => h k (by simp [hk]))
theorem lst_cases (hK : X.K = G.K) {v : AV} {u : V} {xs : List AV} (r : Rel G c) (x : RV G c v u) (e : lstA v c.h = some xs) (hl : small xs.length = true) : ∃ us, RVs G c xs us ∧ ∀ Q : VK, (∀ l, c.H l = none → Q (.ref l) (upd c.H l (.lst us))) → rListA X.K [u] c.H Q := by
  cases x with
  | fl a b d => cases e; obtain ⟨p, us, e1, h, y⟩ := rv_list (K := X.K) hK (RV.fl a b d); cases e1; exact ⟨us, y, fun Q q => .inl ⟨_, us, rfl, .inl h, q⟩⟩
  | flK a b => cases e; obtain ⟨p, us, e1, h, y⟩ := rv_list (K := X.K) hK (RV.flK (c := c) a b); cases e1; exact ⟨us, y, fun Q q => .inl ⟨_, us, rfl, .inl h, q⟩⟩
  | tup a b d => cases e; obtain ⟨p, us, e1, h, y⟩ := rv_tup (K := X.K) hK (RV.tup a b d); cases e1; exact ⟨us, y, fun Q q => .inl ⟨_, us, rfl, .inr h, q⟩⟩
  | tupK a b => cases e; obtain ⟨p, us, e1, h, y⟩ := rv_tup (K := X.K) hK (RV.tupK (c := c) a b); cases e1; exact ⟨us, y, fun Q q => .inl ⟨_, us, rfl, .inr h, q⟩⟩
  | @str z k =>
    cases e
    refine ⟨_, chars_rv k, fun Q q => .inr ⟨z, rfl, ?_, q⟩⟩
    have := small_le hl
    rw [List.length_map] at this
    simpa [Str.length] using this
  | @ref n hn =>
    unfold lstA at e
    simp only at e
    split at e
    · rename_i ys q
      cases e
      obtain ⟨us, q1, y⟩ := lst_at r q
      exact ⟨us, y, fun Q q => .inl ⟨_, us, rfl, .inl (.inl (.inl q1)), q⟩⟩
    · cases e
  | _ => cases e
theorem ao_listF (hK : X.K = G.K) : AOL G kListF (rListA X.K) := fun c v us Q r x p => by
  unfold kListF at p
  split at p
  · rename_i v
    cases q : lstA v c.h with
    | none => rw [q] at p; exact p.elim
    | some xs =>
      rw [q] at p
      simp only [Option.bind_some] at p
      by_cases hl : small xs.length = true
      · rw [if_pos hl] at p
        cases x with
        | cons x xr =>
          cases xr
          obtain ⟨us, y, f⟩ := lst_cases hK r x q hl
          exact f Q (post_lst r p y)
      · rw [if_neg hl] at p; exact p.elim
  · exact p.elim
theorem ao_listR (hK : X.K = G.K) : AOL G kListR (rListA X.K) := fun c v us Q r x p => by
  unfold kListR at p
  split at p
  · rename_i v
    cases q : lstA v c.h with
    | none => rw [q] at p; exact p.elim
    | some xs =>
      rw [q] at p
      simp only [Option.bind_some] at p
      by_cases hl : small xs.length = true
      · rw [if_pos hl] at p
        cases x with
        | cons x xr =>
          cases xr
          obtain ⟨us, y, f⟩ := lst_cases hK r x q hl
          refine f Q fun a ha => ?_
          have N := Nxt.alloc (o := .lst xs) (H' := upd c.H a (.lst us)) r ha (fun b o z => by rw [upd_ne (ne_of_none z ha)]; exact z) fun c' M e => ⟨us, by rw [e, upd_same], y.mono M⟩
          have y2 : RV G { c with rho := ext c.rho c.h.length a, h := c.h ++ [some (.lst xs)], H := upd c.H a (.lst us) } (.ref c.h.length) (.ref (ext c.rho c.h.length a c.h.length)) := .ref (by simp)
          rw [ext_same] at y2
          exact p _ _ N rfl y2
      · rw [if_neg hl] at p; exact p.elim
  · exact p.elim
end
end PI
/-! PIv: list comprehensions. -/
namespace PI
open PySem PySem.Spec PyProof.Rows L2 ClX
def W0 : WX := fun _ _ _ _ => False
/-- an error inside has no way out here -/
def noX {α : Type} : Res α → Res α
  | .ok a h => .ok a h
  | _ => .stuck
def wipeA (τ : AS) : List Nat → AS
  | [] => τ
  | v :: vs => (wipeA τ vs).set v none
/-- a block's own slot -/
def gE (i : Nat) : MG := fun v τ => match τ[i]? with
  | some none => some (τ.set i (some v))
  | _ => none
def lcL (g : MG) (mt : MT) (me : ME) (τ : AS) : List AV → List AV → AH → Res AV
  | [], acc, h => .ok (.fl acc) h
  | v :: r, acc, h => match g v τ with
    | none => .stuck
    | some τ2 => (noX (mt τ2 h)).bind fun b h => if b then (noX (me τ2 h)).bind fun y h => if small (acc.length + 1) then lcL g mt me τ r (acc ++ [y]) h else .stuck else lcL g mt me τ r acc h
def mLc (vs : List Nat) (g : MG) (mi : MA) (mt : MT) (me : ME) : ME := fun τ h => (mi τ h).bind fun xs h => lcL g mt me (wipeA τ vs) xs [] h
def mYes : MT := fun _ h => .ok true h
section
variable {G : Gx} {B : Bx} {zs : Addr → Prop} {W : WX} {X : Cx} {c c' : Cfg} {L : List Addr} {τ : AS} {σ : SL} {pos pos' p apos cpos : Pos} {e o a : Expr} {es : List Expr} {m n mo me : ME} {ma mi : MA} {mt : MT} {x s : Str} {i : Nat} {vs : List Nat}
theorem noX_post {α β : Type} {R : RR α β} {W' : XK} {Q : β → Hp → Prop} {γ δ : Type} {R' : RR γ δ} {Q' : δ → Hp → Prop} {Wo : XK} {r : Res α} {f : α → AH → Res γ} (p : Post G R' c Wo Q' ((noX r).bind f)) (k : ∀ c1 v u, Nxt G c c1 → R c1 v u → Post G R' c1 Wo Q' (f v c1.h) → Q u c1.H) : Post G R c W' Q r := by
  cases r with
  | ok v h1 => intro c1 u N e x; subst e; exact k c1 v u N x (Post.trans N p)
  | exc y fy h1 => exact p.elim
  | stuck => exact p.elim
/-- targets of a block: its own slots, empty until then -/
def tGe (G : Gx) (B : Bx) (vs : List Nat) (g : MG) : TG := fun u σ H Q => ∃ c τ L v τ', c.H = H ∧ Rel G c ∧ RS G B c L τ σ ∧ RV G c v u ∧ g v τ = some τ' ∧ ∀ σ', RS G B c L τ' σ' → wipe σ' vs = wipe σ vs → Q σ' H
def tGse (G : Gx) (B : Bx) (vs : List Nat) (g : List AV → AS → Option AS) : TGs := fun us σ H Q => ∃ c τ L ws τ', c.H = H ∧ Rel G c ∧ RS G B c L τ σ ∧ RVs G c ws us ∧ g ws τ = some τ' ∧ ∀ σ', RS G B c L τ' σ' → wipe σ' vs = wipe σ vs → Q σ' H
def IGe (G : Gx) (B : Bx) (vs : List Nat) (X : Cx) (e : Expr) (g : MG) : Prop := PG X e (tGe G B vs g)
def IGse (G : Gx) (B : Bx) (vs : List Nat) (X : Cx) (es : List Expr) (g : List AV → AS → Option AS) : Prop := PGs X es (tGse G B vs g)
theorem wipe_comm {σ : SL} {i : Nat} {t : Option V} : ∀ {vs : List Nat}, i ∉ vs → wipe (σ.set i t) vs = (wipe σ vs).set i t
  | [], _ => rfl
  | v :: vs, h => by
    have h1 : i ≠ v := fun y => h (by rw [y]; exact List.mem_cons_self)
    unfold wipe
    rw [wipe_comm fun y => h (List.mem_cons_of_mem _ y), List.set_comm _ _ h1]
theorem wipe_set {σ : SL} {i : Nat} {t : Option V} : ∀ {vs : List Nat}, i ∈ vs → wipe (σ.set i t) vs = wipe σ vs
  | v :: vs, h => by
    unfold wipe
    by_cases h2 : i ∈ vs
    · rw [wipe_set h2]
    · rcases List.mem_cons.mp h with h | h
      · subst h
        rw [wipe_comm h2, List.set_set]
      · exact absurd h h2
theorem wipe_idem {σ : SL} : ∀ {vs : List Nat}, wipe (wipe σ vs) vs = wipe σ vs
  | [] => rfl
  | v :: vs => by
    show (wipe ((wipe σ vs).set v none) vs).set v none = (wipe σ vs).set v none
    by_cases h : v ∈ vs
    · rw [wipe_set h, wipe_idem]
    · rw [wipe_comm h, wipe_idem, List.set_set]
theorem RS.len (r : RS G B c L τ σ) : τ.length = σ.length := by
  induction r with
  | nil => rfl
  | cons _ _ ih => rw [List.length_cons, List.length_cons, ih]
theorem RS.wipe1 (r : RS G B c L τ σ) (i : Nat) : ∃ L', (∀ a, a ∈ L' → a ∈ L) ∧ RS G B c L' (τ.set i none) (σ.set i none) := by
  cases e : τ[i]? with
  | none =>
    have hl : τ.length ≤ i := List.getElem?_eq_none_iff.mp e
    rw [List.set_eq_of_length_le hl, List.set_eq_of_length_le (by rw [← r.len]; exact hl)]
    exact ⟨L, fun _ h => h, r⟩
  | some o =>
    obtain ⟨P, S, l, t, e1, e2, y, f⟩ := r.focus e
    refine ⟨P ++ [] ++ S, fun a h => by rw [e1]; simp at h ⊢; rcases h with h | h <;> simp [h], f c [] none none .refl (fun a h => ⟨r.z a (by rw [e1]; simp at h ⊢; rcases h with h | h <;> simp [h]), rfl⟩) .skip⟩
theorem RS.wipeAll (r : RS G B c L τ σ) : ∀ vs : List Nat, ∃ L', (∀ a, a ∈ L' → a ∈ L) ∧ RS G B c L' (wipeA τ vs) (wipe σ vs)
  | [] => ⟨L, fun _ h => h, r⟩
  | v :: vs => by
    obtain ⟨L1, h1, r1⟩ := RS.wipeAll r vs
    obtain ⟨L2, h2, r2⟩ := r1.wipe1 v
    exact ⟨L2, fun a h => h1 a (h2 a h), r2⟩
theorem RS.own1 (r : RS G B c L τ σ) {i : Nat} (e : τ[i]? = some none) {v : AV} {u : V} (x : RV G c v u) : RS G B c L (τ.set i (some v)) (σ.set i (some u)) := by
  obtain ⟨P, S, l, t, e1, e2, y, f⟩ := r.focus e
  cases y
  have q := f c [] (some v) (some u) .refl (fun a h => ⟨r.z a (by rw [e1]; simp at h ⊢; rcases h with h | h <;> simp [h]), rfl⟩) (.val x)
  rw [e1]
  exact q
theorem ige_name (i : Nat) {x : Str} (hN : X.N.Nodup) (hv : i ∈ vs := by decide) (hi : X.N[i]? = some x := by rfl) (hx : Loc X.env.scope x := by first | exact Or.inl rfl | exact Or.inr rfl) (hf : X.fn x = true ∨ X.env.scope.names.lookup x = some .local := by first | exact .inl rfl | exact .inr rfl | assumption) : IGe G B vs X (.Name x pos) (gE i) :=
  PG.imp (pg_name hN hi hx hf) fun u σ H Q ⟨c, τ, L, v, τ', eH, r, s, x, e, k⟩ => by
  unfold gE at e
  split at e
  · rename_i q
    cases e
    exact k _ (s.own1 q x) (wipe_set hv)
  · cases e
theorem igse_nil : IGse G B vs X [] gsNil := PGs.imp pgs_nil fun us σ H Q ⟨c, τ, L, ws, τ', eH, r, s, x, e, k⟩ => by
  cases x with
  | nil =>
    cases e
    exact ⟨rfl, k σ s rfl⟩
  | cons _ _ => cases e
theorem igse_cons {g : MG} {gs : List AV → AS → Option AS} (h1 : IGe G B vs X a g) (h2 : IGse G B vs X es gs) (hs : (assignEach (a :: es) X.env).map (·.2) = assign a X.env :: (assignEach es X.env).map (·.2) := by rfl) : IGse G B vs X (a :: es) (gsCons g gs) :=
  PGs.imp (pgs_cons h1 h2 hs) fun us σ H Q ⟨c, τ, L, ws, τ', eH, r, s, x, e, k⟩ => by
  cases x with
  | nil => cases e
  | @cons v vr u ur x xr =>
    unfold gsCons at e
    simp only at e
    cases q : g v τ with
    | none => rw [q] at e; cases e
    | some τ1 =>
      rw [q] at e
      exact ⟨u, ur, rfl, c, τ, L, v, τ1, eH, r, s, x, q, fun σ1 s1 w1 => ⟨c, τ1, L, vr, τ', eH, r, s1, xr, e, fun σ2 s2 w2 => k σ2 s2 (w2.trans w1)⟩⟩
theorem ige_tup {n k : Nat} {gs : List AV → AS → Option AS} (hK : X.K = G.K) (hc : X.calm = true) (h : IGse G B vs X es gs) (hn : (assignEach es X.env).length = n := by rfl) (hst : (assignEach es X.env).findIdx? (·.1) = none := by rfl) : IGe G B vs X (.Tuple es k pos) (gT n gs) := by
  refine PG.imp (PG.or (pg_tup hc h hn hst) (pg_lst hc h hn hst)) fun u σ H Q ⟨c, τ, L, v, τ', eH, r, s, x, e, k⟩ => ?_
  unfold gT at e
  have go : ∀ {xs : List AV} {us : List V}, RVs G c xs us → (if xs.length = n then gs xs τ else none) = some τ' → us.length = n ∧ tGse G B vs gs us σ H Q := fun {xs us} y e => by
    by_cases hl : xs.length = n
    · rw [if_pos hl] at e
      exact ⟨by rw [← y.length]; exact hl, c, τ, L, xs, τ', eH, r, s, y, e, k⟩
    · rw [if_neg hl] at e; cases e
  cases v with
  | tup xs =>
    obtain ⟨b, us, rfl, q, y⟩ := rv_tup hK x
    obtain ⟨hl, t⟩ := go y e
    subst eH
    exact .inl ⟨b, us, rfl, q, hl, t⟩
  | fl xs =>
    obtain ⟨b, us, rfl, q, y⟩ := rv_list hK x
    obtain ⟨hl, t⟩ := go y e
    subst eH
    exact .inr ⟨b, us, rfl, q, hl, t⟩
  | _ => cases e
/-- the tests -/
theorem its_nil : PTs X [] (tIt G B W mYes) := ⟨fun pins s σ H Q I ⟨c, τ, L, eH, rl, s', p⟩ => pts_nil.run pins s σ H Q I (by subst eH; exact p c true (.refl rl) rfl rfl)⟩
theorem its_one (h : IT G B W X a mt) : PTs X [a] (tIt G B W mt) := pts_one h
theorem lc_ok {mi : MA} {g : MG} {σ : SL} {H : Hp} {Q : VK} (vs : List Nat) (t : tI G B W (mLc vs g mi mt me) σ H Q) : tLc (tIi G B W mi) (tGe G B vs g) (tIt G B W0 mt) (tI G B W0 me) vs σ H Q := by
  obtain ⟨c, τ, L, eH, rl, s, p⟩ := t
  refine ⟨c, τ, L, eH, rl, s, (Post.bind (R := fun c' (vs : List AV) (J : It) => Goes G c' J vs) p).imp fun J H1 ⟨c1, xs, e1, N1, ⟨Gd, Y, w, hG, hY⟩, p1⟩ => ?_⟩
  subst e1
  have s1 := s.nxt N1
  intro D hD
  obtain ⟨L0, hL0, sw⟩ := s1.wipeAll vs
  let Z1 : Addr → Prop := fun a => c1.Z a ∨ a = D
  have nDZ : ¬ c1.Z D := N1.rel.nz hD
  have nDL : ∀ a, a ∈ L0 → c1.Z a := fun a h => s1.z a (hL0 a h)
  -- the list stands at D, nobody else holds it
  refine ⟨fun i k H => ∃ (c2 : Cfg) (acc : List AV) (us : List V), c2.H = H ∧ k + i = xs.length ∧ Rel G c2 ∧ Mv c1 c2 ∧ (∀ a, c2.Z a ↔ (c1.Z a ∨ a = D)) ∧ (∀ a, c1.Z a → c2.H a = c1.H a) ∧ c2.H D = some (.lst us) ∧ RVs G c2 acc us ∧
      Post G (RV G) c1 (fun k d H' => W k d σ H') Q (lcL g mt me (wipeA τ vs) (xs.drop i) acc c2.h),
    ⟨xs.length, { c1 with Z := fun a => c1.Z a ∨ a = D, H := upd c1.H D (.lst []) }, [], [], rfl, rfl, N1.rel.mine hD, Mv.mine hD, fun a => Iff.rfl, fun a z => upd_ne fun y => nDZ (by rw [← y]; exact z), upd_same, .nil, p1⟩, ?_⟩
  rintro i k H ⟨c2, acc, us, rfl, hk, r2, M2, hZ, hH, hD2, y2, p2⟩
  have hg2 := hG c2 M2
  by_cases hi2 : i < xs.length
  · refine .inr ⟨w.goes i c2.H hi2 hg2, fun H' => ∃ k', k' < k ∧ ∃ (c3 : Cfg) (acc : List AV) (us : List V), c3.H = H' ∧ k' + (i + 1) = xs.length ∧ Rel G c3 ∧ Mv c1 c3 ∧ (∀ a, c3.Z a ↔ (c1.Z a ∨ a = D)) ∧ (∀ a, c1.Z a → c3.H a = c1.H a) ∧ c3.H D = some (.lst us) ∧ RVs G c3 acc us ∧
        Post G (RV G) c1 (fun k d H' => W k d σ H') Q (lcL g mt me (wipeA τ vs) (xs.drop (i + 1)) acc c3.h), fun H' h => h, fun x H' y => ?_⟩
    obtain ⟨N3, x3⟩ := hY c2 i x H' xs[i] M2 r2 (by simp [hi2]) (w.yields i c2.H x H' hi2 hg2 y)
    rw [List.drop_eq_getElem_cons hi2] at p2
    unfold lcL at p2
    cases q : g xs[i] (wipeA τ vs) with
    | none => rw [q] at p2; exact p2.elim
    | some τ2 =>
      rw [q] at p2
      simp only at p2
      -- the slots, seen from c3
      have cz : ∀ a, c1.Z a → c2.Z a := fun a z => (hZ a).mpr (.inl z)
      have sw2 : RS G B c2 L0 (wipeA τ vs) (wipe σ vs) := sw.mono M2 fun a h => ⟨cz a (nDL a h), hH a (nDL a h)⟩
      have sw3 := sw2.nxt N3
      have rest : ∀ {c4 : Cfg}, Nxt G c2 c4 → (Rel G c4 ∧ Mv c1 c4 ∧ (∀ a, c4.Z a ↔ (c1.Z a ∨ a = D)) ∧ (∀ a, c1.Z a → c4.H a = c1.H a) ∧ c4.H D = some (.lst us) ∧ RVs G c4 acc us) := fun {c4} N => by
        refine ⟨N.rel, M2.trans N.mv, fun a => by rw [N.z]; exact hZ a, fun a z => (N.zz a (cz a z)).trans (hH a z), (N.zz D ((hZ D).mpr (.inr rfl))).trans hD2, y2.mono N.mv⟩
      refine ⟨{ c2 with H := H' }, _, L0, xs[i], τ2, rfl, N3.rel, sw3, x3, q, fun σ2 s2 hw => ⟨hw.trans wipe_idem, { c2 with H := H' }, τ2, L0, rfl, N3.rel, s2, ?_⟩⟩
      revert p2
      cases eT : mt τ2 c2.h with
      | exc _ _ _ => exact fun p2 => p2.elim
      | stuck => exact fun p2 => p2.elim
      | ok b h4 =>
        intro p2 c4 u4 N4 e4 x4
        subst x4
        subst e4
        have p2 : Post G (RV G) c1 (fun k d H' => W k d σ H') Q (if b = true then (noX (me τ2 c4.h)).bind fun y h => if small (acc.length + 1) then lcL g mt me (wipeA τ vs) (xs.drop (i + 1)) (acc ++ [y]) h else .stuck else lcL g mt me (wipeA τ vs) (xs.drop (i + 1)) acc c4.h) := p2
        have N24 := N3.trans N4
        cases b with
        | false =>
          rw [if_neg Bool.false_ne_true] at p2 ⊢
          obtain ⟨a1, a2, a3, a4, a5, a6⟩ := rest N24
          exact ⟨k - 1, by omega, c4, acc, us, rfl, by omega, a1, a2, a3, a4, a5, a6, p2⟩
        | true =>
          rw [if_pos rfl] at p2 ⊢
          refine ⟨c4, τ2, L0, rfl, N4.rel, s2.nxt N4, ?_⟩
          revert p2
          cases eE : me τ2 c4.h with
          | exc _ _ _ => exact fun p2 => p2.elim
          | stuck => exact fun p2 => p2.elim
          | ok y h5 =>
            intro p2 c5 u5 N5 e5 x5
            subst e5
            have p2 : Post G (RV G) c1 (fun k d H' => W k d σ H') Q (if small (acc.length + 1) then lcL g mt me (wipeA τ vs) (xs.drop (i + 1)) (acc ++ [y]) c5.h else .stuck) := p2
            by_cases hl : small (acc.length + 1) = true
            · rw [if_pos hl] at p2
              obtain ⟨a1, a2, a3, a4, a5, a6⟩ := rest (N24.trans N5)
              refine ⟨us, a5, by rw [← a6.length]; exact Nat.lt_of_lt_of_le (Nat.lt_succ_self _) (small_le hl), k - 1, by omega, { c5 with H := upd c5.H D (.lst (us ++ [u5])) }, acc ++ [y], us ++ [u5], rfl, by omega, ?_⟩
              have zD : c5.Z D := (a3 D).mpr (.inr rfl)
              have M6 := Mv.turn (O := .lst (us ++ [u5])) zD
              exact ⟨a1.turn zD, a2.trans M6, a3, fun a z => (upd_ne fun y => nDZ (by rw [← y]; exact z)).trans (a4 a z), upd_same, (RVs.append a6 (.cons x5 .nil)).mono M6, p2⟩
            · rw [if_neg hl] at p2; exact p2.elim
  · have hl : xs.length ≤ i := by omega
    have hk0 : i = xs.length := by omega
    subst hk0
    refine .inl ⟨w.stops c2.H hg2, ?_⟩
    rw [List.drop_length] at p2
    have M3 : Mv c2 { c2 with Z := c1.Z } := Mv.fewer fun a z => (hZ a).mpr (.inl z)
    have r3 : Rel G { c2 with Z := c1.Z } := r2.fewer fun a z => (hZ a).mpr (.inl z)
    have N : Nxt G c1 { c2 with Z := c1.Z } := ⟨r3, M2.trans M3, rfl, hH⟩
    exact p2 { c2 with Z := c1.Z } (.ref D) N rfl (.fl (.inl hD2) ⟨(r2.zok D ((hZ D).mpr (.inr rfl))).1, nDZ⟩ (y2.mono M3))
theorem ie_lc {elt tg iter : Expr} {ifs : List Expr} {scope : Scope} (own : List (Str × Nat)) {g : MG} (hN : X.N.Nodup) (ok : BlkOk X.N X.env.scope scope own) (hi : II G B W X tg iter mi)
    (hg : ∀ (s : Shared) (H : Hp) (C : Addr) (cl : List (Str × Addr)) (fp : List Addr), IGe G B (own.map (·.2)) (X.blk s H scope (compEnvC scope cl C X.env) fp) tg g) (ht : ∀ (s : Shared) (H : Hp) (C : Addr) (cl : List (Str × Addr)) (fp : List Addr), PTs (X.blk s H scope (compEnvC scope cl C X.env) fp) ifs (tIt G B W0 mt))
    (he : ∀ (s : Shared) (H : Hp) (C : Addr) (cl : List (Str × Addr)) (fp : List Addr), IE G B W0 (X.blk s H scope (compEnvC scope cl C X.env) fp) elt me) (hc : X.calm = true := by rfl) (hs : ∀ x, foldedSetIterable iter X.env x = pure x := by intro _; rfl) :
    IE G B W X (.ListComp elt [⟨tg, iter, ifs, 0⟩] scope pos) (mLc (own.map (·.2)) g mi mt me) :=
  PE.imp (pe_lc hc hN hi ok hg ht he hs) fun _ _ _ t => lc_ok _ t
theorem is_setlc {elt tg iter : Expr} {ifs : List Expr} {scope : Scope} {py : Pos} {y : Str} (i : Nat) (own : List (Str × Nat)) {g : MG} (hN : X.N.Nodup) (ok : BlkOk X.N X.env.scope scope own) (hi : II G B W X tg iter mi)
    (hg : ∀ (s : Shared) (H : Hp) (C : Addr) (cl : List (Str × Addr)) (fp : List Addr), IGe G B (own.map (·.2)) (X.blk s H scope (compEnvC scope cl C X.env) fp) tg g) (ht : ∀ (s : Shared) (H : Hp) (C : Addr) (cl : List (Str × Addr)) (fp : List Addr), PTs (X.blk s H scope (compEnvC scope cl C X.env) fp) ifs (tIt G B W0 mt))
    (he : ∀ (s : Shared) (H : Hp) (C : Addr) (cl : List (Str × Addr)) (fp : List Addr), IE G B W0 (X.blk s H scope (compEnvC scope cl C X.env) fp) elt me) (hc : X.calm = true := by rfl) (hs : ∀ x, foldedSetIterable iter X.env x = pure x := by intro _; rfl)
    (hy : X.N[i]? = some y := by rfl) (hyl : X.env.scope.names.lookup y = some .local := by rfl) (hsw : swapsWith (.ListComp elt [⟨tg, iter, ifs, 0⟩] scope pos) (some (.Name y py)) pos'.line X.env = pure true := by rfl) :
    IS G B zs W X (.Assign [.Name y py] (.ListComp elt [⟨tg, iter, ifs, 0⟩] scope pos) pos') (sSet i (mLc (own.map (·.2)) g mi mt me)) :=
  PS.imp (ps_setLc hc hN hy hyl hsw hi ok hg ht he hs) fun D σ H ⟨c, τ, L, eH, r, o, s, p⟩ => by
  refine lc_ok _ ⟨c, τ, L, eH, r, s, (PostS.bindS (R := RV G) o s p).imp fun u H1 ⟨c1, v, e1, N1, x1, p1⟩ => ?_⟩
  subst e1
  by_cases hl : i < τ.length
  · rw [if_pos hl] at p1
    obtain ⟨L', S, s'⟩ := RS.put N1.rel (o.nxt N1) (s.nxt N1) hl x1
    exact p1 c1 L' _ S rfl s'
  · rw [if_neg hl] at p1
    exact p1.elim
theorem take0 : Takes X W0 := fun u s' ⟨_, _, _, _, _, _, _, _, _, _, _, _, _, _, _, _, w⟩ => w.elim
end
end PI
/-! PIw: texts of things, instances that are called, keywords. -/
namespace PI
open PySem PySem.Spec PyProof.Rows L2 ClX
/-! ### f-strings -/
def fmtA (v : AV) (h : AH) : Res AV := match v with
  | .str y => if strS y.length then .ok (.str y) h else .stuck
  | .int i => if decide (i.natAbs.log2 < 1920) && PyData.strOk (toString i) then .ok (.str (toString i)) h else .stuck
  | _ => .stuck
def mFmt (m : ME) : ME := fun τ h => (m τ h).bind fun v h => fmtA v h
def mJs : List ME → Str → ME
  | [], acc => fun _ h => .ok (.str acc) h
  | m :: ms, acc => fun τ h => (m τ h).bind fun v h => match v with
    | .str y => if small (acc ++ y).length then mJs ms (acc ++ y) τ h else .stuck
    | _ => .stuck
section
variable {G : Gx} {B : Bx} {zs : Addr → Prop} {W : WX} {X : Cx} {c c' : Cfg} {L : List Addr} {τ : AS} {σ : SL} {pos pos' p apos cpos : Pos} {e o a : Expr} {es : List Expr} {m n mo me : ME} {ma mi mk : MA} {mt : MT} {x s : Str} {i : Nat} {vs : List Nat}
theorem ie_fmt (he : IE G B W X e m) : IE G B W X (.FormattedValue e (-1) none pos) (mFmt m) := PE.imp (pe_fmt he) fun σ H Q ⟨c, τ, L, eH, rl, s, p⟩ => by
  refine ⟨c, τ, L, eH, rl, s, (Post.bind (R := RV G) p).imp fun u H1 ⟨c1, v, e1, N1, x1, p1⟩ => ?_⟩
  subst e1
  unfold fmtA at p1
  cases x1 with
  | @str y k =>
    simp only at p1
    by_cases h : strS y.length = true
    · rw [if_pos h] at p1
      exact .inl ⟨y, rfl, by have := of_decide_eq_true h; rw [sizeLine_eq]; exact this, fin N1.rel (.str k) p1⟩
    · rw [if_neg h] at p1; exact p1.elim
  | @int j =>
    simp only at p1
    by_cases h : (decide (j.natAbs.log2 < 1920) && PyData.strOk (toString j)) = true
    · rw [if_pos h] at p1
      rw [Bool.and_eq_true] at h
      exact .inr ⟨j, rfl, of_decide_eq_true h.1, fin N1.rel (.str h.2) p1⟩
    · rw [if_neg h] at p1; exact p1.elim
  | _ => exact p1.elim
inductive IJ (G : Gx) (B : Bx) (W : WX) (X : Cx) : List Expr → List ME → Prop where
  | nil : IJ G B W X [] []
  | cons {e : Expr} {m : ME} {es : List Expr} {ms : List ME} (h : IE G B W X e m) (r : IJ G B W X es ms) : IJ G B W X (e :: es) (m :: ms)
theorem IJ.pj {es : List Expr} {ms : List ME} (h : IJ G B W X es ms) : PJ X es (ms.map (tI G B W)) := by
  induction h with
  | nil => exact .nil
  | cons h _ ih => exact .cons h ih
theorem js_ok {Q : VK} : ∀ {ms : List ME} {acc : Str} {σ : SL} {H : Hp}, PyData.strOk acc = true → tI G B W (mJs ms acc) σ H Q → tJs (ms.map (tI G B W)) acc σ H fun out H1 => Q (.str out) H1
  | [], acc, σ, H, k, ⟨c, τ, L, eH, rl, s, p⟩ => by
    subst eH
    exact fin rl (.str k) p
  | m :: ms, acc, σ, H, k, ⟨c, τ, L, eH, rl, s, p⟩ => by
    refine ⟨c, τ, L, eH, rl, s, (Post.bind (R := RV G) p).imp fun u H1 ⟨c1, v, e1, N1, x1, p1⟩ => ?_⟩
    subst e1
    cases x1 with
    | @str y ky =>
      simp only at p1
      by_cases h : small (acc ++ y).length = true
      · rw [if_pos h] at p1
        exact ⟨y, rfl, small_le h, js_ok (strOk_app k ky) ⟨c1, τ, L, rfl, N1.rel, s.nxt N1, p1⟩⟩
      · rw [if_neg h] at p1; exact p1.elim
    | _ => exact p1.elim
theorem ie_joined {v1 v2 : Expr} {rest : List Expr} {ms : List ME} (h : IJ G B W X (v1 :: v2 :: rest) ms) : IE G B W X (.JoinedStr (v1 :: v2 :: rest) pos) (mJs ms Str.empty) := PE.imp (pe_joined h.pj) fun _ _ _ t => js_ok (by decide +kernel) t
/-! ### an instance that is called -/
def mCallI (kc : Nat) (f : FN) (m : ME) (ma : MA) : ME := fun τ h => (m τ h).bind fun v h => match fldsOf v h with
  | some (k', _) => if k' = kc then (ma τ h).bind fun vs h => match fldsOf v h with
    | some (k2, _) => if k2 = kc then f (v :: vs) h else .stuck
    | none => .stuck
    else .stuck
  | none => .stuck
section
variable {M : Model} {A : Around} {E : Value → Shared → Prop} {s : Shared} {y : Addr} {first : List Value} {Q : Value → Shared → Prop}
theorem callWith_inst {args : List (Bool × Sem Value)} {keywords : List (Option Str × Sem Value)} (hplain : (args.any (·.1) || keywords.any (·.1.isNone)) = false)
    (h : wpAny M A (evalArgs (.ref y) true args keywords) (fun a s₁ => (∃ ox, s₁.heap.get? y = some ox ∧ ox.data = .plain) ∧ wpAny M A (call (.ref y) (first ++ a.pos) a.kw) Q E s₁) E s) : wpAny M A (callWith pos (.ref y) first args keywords) Q E s := by
  unfold callWith
  refine wpAny_bind (wpAny_holding (wpAny_mono h (fun a s₁ h₁ => wpAny_bind (wpAny_standAt ?_)) fun _ _ y => y))
  obtain ⟨⟨ox, hx, hd⟩, h2⟩ := h₁
  have L : PySem.W.Looks M s₁.heap (keeperOf (.ref y)) .caller := by
    refine (PySem.W.Looks.ld (part := none) hx).andThen ?_
    simp only [hd]
    exact .now
  simp only [hplain]
  refine wpAny_bind (L.here ?_)
  have tail : ∀ {t : Sem Value}, wpAny M A t Q E s₁ → wpAny M A (t >>= fun r => holding [r] point >>= fun _ => pure r) Q E s₁ :=
    fun ht => wpAny_bind (wpAny_mono ht (fun r s₂ hr => wpAny_bind (wpAny_holding (wpAny_point (wpAny_pure hr)))) fun _ _ y => y)
  exact tail (wpAny_operateT h2)
end
structure OwnM (K : PySem.W.Frag) (C : Addr) (m : Str) (f : Addr) : Prop where
  at_ : PySem.W.findIn K (.ref C) m = some (some (.ref f))
  fn : PySem.W.isFn K (.ref f) = true
  fi : PySem.W.fnIn K f = true
theorem ie_calli {kc k N : Nat} {f : Addr} {fd : FuncData} {ps : List Str} {fn : FN} (i : Nat) (O : OwnM X.K (G.ca kc) "__call__" f) (F : FnOk X.prog X.w X.K X.mg X.base (L2.CX X.prog X.w) k f fd ps (spF G N fn)) (hr : Room k X.A) (tk : Takes X W) (hb : Binds X.K fd ps [])
    (ha : IA G B W X (e :: es) ma) (hN : X.N[i]? = some x := by rfl) (hv : Vis X.env.scope x := by first | exact Or.inl rfl | exact Or.inr (Or.inl rfl) | exact Or.inr (Or.inr rfl)) (hd : (x == ("__debug__" : Str)) = false := by decide)
    (hcd : (x == ("__classdict__" : Str)) = false := by decide) (he : starEach (e :: es) X.env = (false, eval e X.env) :: starEach es X.env := by rfl) (hpl : (backTo pos (starEach es X.env)).any (·.1) = false := by rfl) :
    IE G B W X (.Call (.Name x p) (e :: es) [] pos) (mCallI kc (chk N fn) (mVar i) ma) := by
  refine ⟨fun pins s σ H Q I ⟨c, τ, L, eH, rl, s', q⟩ => ?_⟩
  refine wpAny_Call_Name_kw (thn ((ie_var i (pos := p) hN hv hd hcd).run pins s σ H _ I ⟨c, τ, L, eH, rl, s', Post.bind (R := RV G) q⟩) fun u s1 ⟨y, H1, I1, ry, c1, v, e1, N1, x1, p1⟩ => ?_)
  subst e1
  cases q1 : fldsOf v c1.h with
  | none => rw [q1] at p1; exact p1.elim
  | some kf =>
    obtain ⟨k', fs⟩ := kf
    rw [q1] at p1
    simp only at p1
    by_cases hk : k' = kc
    · rw [if_pos hk] at p1
      subst hk
      obtain ⟨pp, dx, uf, rfl, ep, xf⟩ := inst_at N1.rel x1 q1
      obtain rfl : u = Value.ref pp := ry
      have hA := ha.run pos pins s1 σ c1.H _ I1 ⟨c1, τ, L, rfl, N1.rel, s'.nxt N1, Post.bind (R := RVs G) p1⟩
      rw [he] at hA ⊢
      refine callWith_inst (first := []) (by show ((false || (backTo pos (starEach es X.env)).any (·.1)) || false) = false; rw [hpl]; rfl) (Calls.evalArgs_plain (thn hA fun us s2 ⟨ws, H2, I2, r2, c2, vs, e2, N2, x2, p2⟩ => ?_))
      subst e2
      cases q2 : fldsOf v c2.h with
      | none => rw [q2] at p2; exact p2.elim
      | some kf2 =>
        obtain ⟨k2, fs2⟩ := kf2
        rw [q2] at p2
        simp only at p2
        by_cases hk2 : k2 = k'
        · rw [if_pos hk2] at p2
          subst hk2
          have x3 := x1.mono N2.mv
          obtain ⟨pp2, dx2, uf2, e5, ep2, xf2⟩ := inst_at N2.rel x3 q2
          cases e5
          obtain ⟨mA, J, _⟩ := ins_get I2.hok ep2
          have hox := J.obj
          obtain ⟨od, J, _⟩ := J.look
          refine ⟨⟨_, hox, rfl⟩, ?_⟩
          unfold chk at p2
          by_cases hl : (v :: vs).length = N
          · rw [if_pos hl] at p2
            have hsp : spF G N fn (.ref pp :: ws) c2.H Q (fun k d H => W k d σ H) := sp_of N2.rel (RVs.cons x3 x2) hl p2
            have rr : Vals (V.ref pp :: ws) (Value.ref pp :: us) := .cons rfl r2
            have hlen : (Value.ref pp :: us).length = ps.length := by rw [← rr.length]; exact F.len _ _ _ _ hsp
            refine wpAny_call (PySem.W.kco_code I2.kIn J rfl O.at_ O.fn O.fi (codeAny_mono (F.run X.A X.stack s2 c2.H ⟨.ref pp :: us, []⟩ (.ref pp :: us) (.ref pp :: ws) Q (fun k d H => W k d σ H) hr I2.env0 (by
              have := hb s2 (.ref pp :: us) I2.kIn (by rw [List.append_nil]; exact hlen)
              simpa using this) rr hsp) fun r s' hq => ?_))
            cases r with
            | error e => exact passAt tk σ pins c2.H s2 e s' I2 hq
            | ok fl =>
              cases fl with
              | ret u => exact I2.after hq
              | next => exact False.elim hq
              | brk => exact False.elim hq
              | cont => exact False.elim hq
          · rw [if_neg hl] at p2; exact p2.elim
        · rw [if_neg hk2] at p2; exact p2.elim
    · rw [if_neg hk] at p1; exact p1.elim
/-! ### C(k = v, ..): all parameters by name -/
def pickL {α : Type} (pk : List Nat) (ws : List α) : List α := pk.filterMap fun i => ws[i]?
theorem pick_vals {zs : List V} {ws : List Value} (r : Vals zs ws) : ∀ pk : List Nat, Vals (pickL pk zs) (pickL pk ws)
  | [] => .nil
  | i :: pk => by
    unfold pickL
    cases e : zs[i]? with
    | none =>
      have : ws[i]? = none := by rw [List.getElem?_eq_none_iff] at e ⊢; rw [← r.length]; exact e
      rw [List.filterMap_cons_none e, List.filterMap_cons_none this]
      exact pick_vals r pk
    | some v =>
      obtain ⟨u, hu, ru⟩ := r.get e
      rw [List.filterMap_cons_some e, List.filterMap_cons_some hu]
      exact .cons ru (pick_vals r pk)
theorem pick_rvs {zs : List AV} {ws : List V} (r : RVs G c zs ws) : ∀ pk : List Nat, RVs G c (pickL pk zs) (pickL pk ws)
  | [] => .nil
  | i :: pk => by
    unfold pickL
    cases e : zs[i]? with
    | none =>
      have : ws[i]? = none := by rw [List.getElem?_eq_none_iff] at e ⊢; rw [← r.length]; exact e
      rw [List.filterMap_cons_none e, List.filterMap_cons_none this]
      exact pick_rvs r pk
    | some v =>
      obtain ⟨u, hu, ru⟩ := r.nth' e
      rw [List.filterMap_cons_some e, List.filterMap_cons_some hu]
      exact .cons ru (pick_rvs r pk)
abbrev KB (K : PySem.W.Frag) (fd : FuncData) (ps : List Str) (n : Nat) (ks : List Str) (pk : List Nat) : Prop := KBn K fd ps n ks (fun us ws => us ++ pickL pk ws) (fun vs zs => vs ++ pickL pk zs)
theorem kb_of {K : PySem.W.Frag} {fd : FuncData} {ps : List Str} {n : Nat} {ks : List Str} {pk : List Nat} (h : ∀ (s : Shared) (us ws : List Value), us.length = n → ws.length = ks.length → BindsTo s fd ⟨us, ks.zip ws⟩ (ps.zip (us ++ pickL pk ws))) : KB K fd ps n ks pk :=
  ⟨fun s us ws _ l1 l2 => h s us ws l1 l2, fun r rz => r.append (pick_vals rz pk)⟩
def IK (G : Gx) (B : Bx) (W : WX) (X : Cx) (kws : List Keyword) (m : MA) : Prop := PK X kws (tIa G B W m)
theorem PK.imp {kws : List Keyword} {t t' : TA} (h : PK X kws t) (f : ∀ σ H Q, t' σ H Q → t σ H Q) : PK X kws t' := ⟨fun pos pins s σ H Q I q => h.run pos pins s σ H Q I (f _ _ _ q)⟩
theorem ik_nil : IK G B W X [] mNil := PK.imp pk_nil fun σ H Q ⟨c, τ, L, eH, rl, s, p⟩ => by
  subst eH
  exact p c _ (.refl rl) rfl .nil
theorem ik_cons {nm : Option Str} {kpos : Pos} {kws : List Keyword} (ha : IE G B W X e m) (hr : IK G B W X kws ma) : IK G B W X (⟨nm, e, kpos⟩ :: kws) (mCons m ma) := by
  refine PK.imp (pk_cons ha hr) fun σ H Q ⟨c, τ, L, eH, rl, s, p⟩ => ?_
  refine ⟨c, τ, L, eH, rl, s, (Post.bind (R := RV G) p).imp fun u H1 ⟨c1, v, e1, N1, x1, p1⟩ => ?_⟩
  refine ⟨c1, τ, L, e1.symm, N1.rel, s.nxt N1, (Post.bind (R := RVs G) p1).imp fun us H2 ⟨c2, vs, e2, N2, x2, p2⟩ => ?_⟩
  subst e2
  exact p2 c2 _ (.refl N2.rel) rfl (.cons (x1.mono N2.mv) x2)
def mMkK (k n m : Nat) (f : FI) (pk : List Nat) (ma mk : MA) : ME := fun τ h => (ma τ h).bind fun vs h => (mk τ h).bind fun zs h => if vs.length = n ∧ zs.length = m then (f (vs ++ pickL pk zs) h).bind fun fs h => .ok (.obj k fs) h else .stuck
theorem run_makeKS {CX : CXT} {k n : Nat} {f C : Addr} {fd : FuncData} {ps ks : List Str} {sp : Sp} {pins : List (Addr × Obj)} {σ : SL} {H : Hp} {s : Shared} {Q : VK} {us ws : List Value} {vs zs : List V} {E : SL → XK} {g : List Value → List Value → List Value} {gV : List V → List V → List V} (M : Mk X.K C f) (F : FnOk X.prog X.w X.K X.mg X.base CX k f fd ps sp) (hr : Room (k + 1) X.A) (hb : KBn X.K fd ps (n + 1) ks g gV) (hx : PassesAt CX X σ (E σ))
    (I : Inv X pins σ H s) (r : Vals vs us) (rz : Vals zs ws) (l1 : vs.length = n) (l2 : zs.length = ks.length)
    (h : ∀ x dx, H x = none → H dx = none → dx ≠ x → sp (gV (.ref x :: vs) zs) (upd (upd H dx (.own x)) x (.ins C dx [])) (fun v H2 => v = .non ∧ Q (.ref x) H2) (E σ)) :
    wpAny (model X.prog X.w) X.A (call (.ref C) us (ks.zip ws)) (EP X pins σ Q) X.xe s := by
  have hq := h (s.heap.objs.size + 1) s.heap.objs.size (I.hok.fresh (Nat.le_succ _)) (I.hok.fresh (Nat.le_refl _)) (Nat.ne_of_lt (Nat.lt_succ_self _))
  have I2 := Inv.made (C := C) I
  have r1 : Vals (V.ref (s.heap.objs.size + 1) :: vs) (Value.ref (s.heap.objs.size + 1) :: us) := .cons rfl r
  have r2 := hb.rel r1 rz
  have n1 : (Value.ref (s.heap.objs.size + 1) :: us).length = n + 1 := by rw [List.length_cons, ← r.length, l1]
  refine wpAny_call (make_map (f := f) I.kIn M.makes M.init (beq_iff_eq.mp M.fn) (codeAny_mono (F.run _ X.stack _ _ ⟨Value.ref (s.heap.objs.size + 1) :: us, ks.zip ws⟩ (g (Value.ref (s.heap.objs.size + 1) :: us) ws) _ _ (E σ) (hr.make C us (ks.zip ws))
    (I2.env0.make C us (ks.zip ws)) (hb.to _ (Value.ref (s.heap.objs.size + 1) :: us) ws I2.kIn n1 (rz.length.symm.trans l2)) r2 hq) fun r s' hq' => ?_))
  cases r with
  | error e => exact hx pins _ _ e s' I2 hq'
  | ok fl =>
    cases fl with
    | ret u =>
      obtain ⟨v, H', I3, rv, ev, q3⟩ := I2.after hq'
      subst ev
      exact ⟨rv, ⟨V.ref (s.heap.objs.size + 1), H', I3, rfl, q3⟩⟩
    | next => exact False.elim hq'
    | brk => exact False.elim hq'
    | cont => exact False.elim hq'
theorem ie_mkK0 {kc k N : Nat} {f : Addr} {fd : FuncData} {ps ks : List Str} {pk : List Nat} {fi : FI} {kws : List Keyword} (M : Mk X.K (G.ca kc) f) (F : FnOk X.prog X.w X.K X.mg X.base (L2.CX X.prog X.w) k f fd ps (spI G kc N fi)) (hr : Room (k + 1) X.A) (tk : Takes X W) (hm : X.mg x = some (.ref (G.ca kc))) (hb : KB X.K fd ps 1 ks pk)
    (hkw : IK G B W X kws mk) (hg : Gl X x := by rfl) (hall : (backToKw pos (keywordEach kws X.env)).all (·.1.isSome) = true := by rfl) (hks : (backToKw pos (keywordEach kws X.env)).filterMap (·.1) = ks := by rfl) (hdb : (x == ("__debug__" : Str)) = false := by decide)
    (hpl : ((backTo pos (starEach [] X.env)).any (·.1) || (backToKw pos (keywordEach kws X.env)).any (·.1.isNone)) = false := by rfl) :
    IE G B W X (.Call (.Name x p) [] kws pos) (mMkK kc 0 ks.length (chkI N fi) pk mNil mk) := by
  refine ⟨fun pins s σ H Q I ⟨c, τ, L, eH, rl, s', q⟩ => ?_⟩
  refine wpAny_Call_Name_kw (ld_glob I hg hm ?_ hdb)
  refine PySem.W.callWith_KW0 (h₀ := X.base) I.ok.mod.kin M.kp hall ?_ hpl
  have q' : Post G (RV G) c (fun k d H' => W k d σ H') Q ((mk τ c.h).bind fun zs h => if ([] : List AV).length = 0 ∧ zs.length = ks.length then (chkI N fi ([] ++ pickL pk zs) h).bind fun fs h => .ok (.obj kc fs) h else .stuck) := q
  refine thn (hkw.run pos pins s σ H _ I ⟨c, τ, L, eH, rl, s', Post.bind (R := RVs G) q'⟩) fun ws s2 ⟨zs, H2, I2, rz, c1, vs, e1, N1, x1, p1⟩ => ⟨I2.kIn, ?_⟩
  rw [hks]
  subst e1
  by_cases hl : ([] : List AV).length = 0 ∧ vs.length = ks.length
  · rw [if_pos hl] at p1
    refine run_makeKS (us := []) (vs := []) (E := fun σ k d H => W k d σ H) M F hr hb (passAt tk σ) I2 .nil rz rfl (by rw [← x1.length]; exact hl.2) fun y dx hy hdx ne => ?_
    exact spI_new N1.rel (pick_rvs x1 pk) hy hdx ne p1
  · rw [if_neg hl] at p1; exact p1.elim
end
end PI
/-! PIy: an instance's own ==, its text; dicts that nobody changes. -/
namespace PI
open PySem PySem.Spec PyProof.Rows L2 ClX
def okOf (r : Res AV) : Option (AV × AH) := match r with
  | .ok v h => some (v, h)
  | _ => none
section
variable {G : Gx} {B : Bx} {zs : Addr → Prop} {W : WX} {X : Cx} {c c' : Cfg} {L : List Addr} {τ : AS} {σ : SL} {pos pos' p apos cpos : Pos} {e o a : Expr} {es : List Expr} {m n mo me : ME} {ma mi mk : MA} {mt : MT} {x s : Str} {i : Nat} {vs : List Nat}
theorem okOf_post {E : XK} {Q : VK} {r : Res AV} (p : PostO G c Q (okOf r)) : Post G (RV G) c E Q r := by
  cases r with
  | ok v h => exact p
  | exc _ _ _ => exact p.elim
  | stuck => exact p.elim
/-! ### x == y by x's own __eq__ -/
/-- kt2: types of y that don't come first -/
def kOwnEq (kc : Nat) (ot : AT → Bool) (f : FN) (v w : AV) (h : AH) : Option (AV × AH) := match fldsOf v h, typA w h with
  | some (k', _), some t => if k' = kc ∧ ot t = true then (match okOf (f [v, w] h) with | some (.bl b, h') => some (.bl b, h') | _ => none) else none
  | _, _ => none
theorem typ_looks (hK : X.K = G.K) {pins : List (Addr × Obj)} {σ : SL} {s : Shared} {v : AV} {u : V} {w : Value} {t : AT} {M : Model} (r : Rel G c) (I : Inv X pins σ c.H s) (x : RV G c v u) (rw' : RelV u w) (e : typA v c.h = some t) : PySem.W.Looks M s.heap (typeOf w) (G.tv t) := by
  have ld : ∀ {p : Addr} {ob : Obj} {k : Value}, s.heap.get? p = some ob → ob.cls = k → PySem.W.Looks M s.heap (typeOf (.ref p)) k := fun {p ob k} h1 h2 => h2 ▸ (PySem.W.Looks.ld h1).andThen .now
  cases x with
  | non => cases e; obtain rfl : w = .none := rw'; exact .now
  | bl => cases e; obtain rfl : w = .bool _ := rw'; exact .now
  | int => cases e; obtain ⟨t, rfl⟩ := rw'; exact .now
  | str => cases e; obtain ⟨t, rfl⟩ := rw'; exact .now
  | @tup p xs us q f y =>
    cases e
    obtain rfl : w = .ref p := rw'
    rcases q with q | ⟨o, q⟩
    · obtain ⟨_, its, _, h3⟩ := (show ObjOk X.prog X.w c.H s.heap p (.tup us) from I.hok p _ q)
      obtain ⟨ob, h4, h5, _⟩ := h3
      exact ld h4 h5
    · obtain ⟨h1, _, its, _, h3⟩ := (show ObjOk X.prog X.w c.H s.heap p (.frz o (.tup us)) from I.hok p _ q)
      obtain ⟨ob, h4, h5, _⟩ := h3
      exact ld h4 h5
  | @tupK p xs us q y => cases e; obtain rfl : w = .ref p := rw'; obtain ⟨o, its, n, h1, h2, _⟩ := q; exact ld (I.kIn _ _ (by rw [hK]; exact h1)) h2
  | @fl p xs us q f y =>
    cases e
    obtain rfl : w = .ref p := rw'
    rcases q with q | ⟨o, q⟩
    · obtain ⟨_, its, n, _, h3⟩ := (show ObjOk X.prog X.w c.H s.heap p (.lst us) from I.hok p _ q)
      exact ld h3 rfl
    · obtain ⟨h1, _, its, n, _, h3⟩ := (show ObjOk X.prog X.w c.H s.heap p (.frz o (.lst us)) from I.hok p _ q)
      exact ld h3 rfl
  | @flK p xs us q y => cases e; obtain rfl : w = .ref p := rw'; obtain ⟨o, its, n, h1, h2, _⟩ := q; exact ld (I.kIn _ _ (by rw [hK]; exact h1)) h2
  | @fd p xs us q f y =>
    cases e
    obtain rfl : w = .ref p := rw'
    rcases q with q | ⟨o, q⟩
    · obtain ⟨_, _, vs', _, ob, es', ep', h4, ⟨h5, _⟩, _⟩ := (show ObjOk X.prog X.w c.H s.heap p (.dK us) from I.hok p _ q)
      exact ld h4 h5
    · obtain ⟨_, _, _, vs', _, ob, es', ep', h4, ⟨h5, _⟩, _⟩ := (show ObjOk X.prog X.w c.H s.heap p (.frz o (.dK us)) from I.hok p _ q)
      exact ld h4 h5
  | @obj p k fs dx uf q f y =>
    cases e
    obtain rfl : w = .ref p := rw'
    obtain ⟨mA, J, _⟩ := ins_get I.hok q
    obtain ⟨od, J, _⟩ := J.look
    exact J.type
  | @ref n hn =>
    obtain rfl : w = .ref (c.rho n) := rw'
    unfold typA at e
    simp only at e
    split at e
    · rename_i xs q
      cases e
      obtain ⟨us, q1, _⟩ := r.obj n _ q
      obtain ⟨_, its, n', _, h3⟩ := (show ObjOk X.prog X.w c.H s.heap (c.rho n) (.lst us) from I.hok _ _ q1)
      exact ld h3 rfl
    · rename_i xs q
      cases e
      obtain ⟨us, q1, _⟩ := r.obj n _ q
      obtain ⟨_, _, vs', _, ob, es', ep', h4, ⟨h5, _⟩, _⟩ := (show ObjOk X.prog X.w c.H s.heap (c.rho n) (.dK us) from I.hok _ _ q1)
      exact ld h4 h5
    · rename_i k fs q
      cases e
      obtain ⟨dx, us, q1, _⟩ := r.obj n _ q
      obtain ⟨mA, J, _⟩ := ins_get I.hok q1
      obtain ⟨od, J, _⟩ := J.look
      exact J.type
    · cases e
  | _ => cases e
structure EqOk (G : Gx) (K : PySem.W.Frag) (kc : Nat) (ot : AT → Bool) (f : Addr) : Prop where
  at_ : PySem.W.findIn K (.ref (G.ca kc)) "__eq__" = some (some (.ref f))
  fn : PySem.W.isFn K (.ref f) = true
  nf : ∀ t, ot t = true → PySem.W.notFirst K (G.ca kc) (G.tv t) = true
def rOwnE (G : Gx) (kc : Nat) (ot : AT → Bool) (fn : FN) : R2 := fun x y H Q => ∃ (c : Cfg) (v w : AV), c.H = H ∧ Rel G c ∧ RV G c v x ∧ RV G c w y ∧ PostO G c Q (kOwnEq kc ot fn v w c.h)
theorem ao_owneq {kc : Nat} {ot : AT → Bool} {fn : FN} : AO2 G (kOwnEq kc ot fn) (rOwnE G kc ot fn) := fun c v w u x Q r xv xw p => ⟨c, v, w, rfl, r, xv, xw, p⟩
theorem op_owneq {kc k : Nat} {ot : AT → Bool} {f : Addr} {fd : FuncData} {ps : List Str} {fn : FN} (hK : X.K = G.K) (O : EqOk G X.K kc ot f) (F : FnOk X.prog X.w X.K X.mg X.base (L2.CX X.prog X.w) k f fd ps (spF G 2 fn)) (hr : Room k X.A) (hb : Binds X.K fd ps []) : OpR X (compareOp .Eq) (rOwnE G kc ot fn) := by
  intro pins s σ H x y u1 u2 Q I rx ry h
  obtain ⟨c, v, w, rfl, r, xv, xw, p⟩ := h
  unfold kOwnEq at p
  split at p
  · rename_i k' fs t q1 q2
    by_cases hk : k' = kc ∧ ot t = true
    · rw [if_pos hk] at p
      obtain ⟨hk1, hk2⟩ := hk
      subst hk1
      obtain ⟨pp, dx, uf, rfl, ep, xf⟩ := inst_at r xv q1
      obtain rfl : u1 = Value.ref pp := rx
      obtain ⟨mA, J, _⟩ := ins_get I.hok ep
      obtain ⟨od, J, _⟩ := J.look
      obtain ⟨mm, hF⟩ := I.fr
      have hL := typ_looks (M := model X.prog X.w) hK r I xw ry q2
      show wpAny (model X.prog X.w) X.A (richCompare .Eq (.ref pp) u2) (EP X pins σ Q) X.xe s
      refine PySem.W.cmp_K (op := .Eq) hr.units0 hF I.ok.mod.kin J hL (O.nf t hk2) O.at_ O.fn ?_
      have hp : Post G (RV G) c (fun _ _ _ => False) (fun u H' => ∃ b, u = .bl b ∧ Q (.bl b) H') (fn [v, w] c.h) := by
        revert p
        cases e : fn [v, w] c.h with
        | exc _ _ _ => exact fun p => p.elim
        | stuck => exact fun p => p.elim
        | ok z h' =>
          cases z with
          | bl bb => intro p c1 u N e1 x1; cases x1; exact ⟨bb, rfl, p c1 _ N e1 .bl⟩
          | _ => exact fun p => p.elim
      have hsp : spF G 2 fn [.ref pp, y] c.H (fun u H' => ∃ b, u = .bl b ∧ Q (.bl b) H') (fun _ _ _ => False) := sp_of r (.cons xv (.cons xw .nil)) rfl hp
      have hl := F.len _ _ _ _ hsp
      have r2 : Vals [V.ref pp, y] [Value.ref pp, u2] := .cons rfl (.cons ry .nil)
      refine wpAny_call (codeAny_mono (F.run X.A X.stack s c.H ⟨[.ref pp, u2], []⟩ [.ref pp, u2] [.ref pp, y] _ (fun _ _ _ => False) hr I.env0 (by
        have := hb s [.ref pp, u2] I.kIn (by simpa using hl)
        simpa using this) r2 hsp) fun r s' hq => ?_)
      cases r with
      | error e => exact False.elim (by obtain ⟨_, _, _, _, _, _, _, _, _, _, _, _, z⟩ := hq; exact z)
      | ok fl =>
        cases fl with
        | ret u =>
          obtain ⟨z, H', I', rz, ⟨bb, ez, q⟩⟩ := I.after hq
          subst ez
          cases rz
          exact ⟨.bl bb, H', I', rfl, q⟩
        | next => exact False.elim hq
        | brk => exact False.elim hq
        | cont => exact False.elim hq
    · rw [if_neg hk] at p; exact p.elim
  · exact p.elim
/-! ### str(x) by x's own __str__; str of a text, of an int -/
def kStr (kc : Nat) (f : FN) (vs : List AV) (h : AH) : Option (AV × AH) := match vs with
  | [v] => match fldsOf v h with
    | some (k', _) => if k' = kc then (match okOf (f [v] h) with | some (.str z, h') => some (.str z, h') | _ => none) else none
    | none => none
  | _ => none
def rStrE (G : Gx) (kc : Nat) (fn : FN) : List V → Hp → VK → Prop := fun xs H Q => ∃ (c : Cfg) (vs : List AV), c.H = H ∧ Rel G c ∧ RVs G c vs xs ∧ PostO G c Q (kStr kc fn vs c.h)
theorem ao_str {kc : Nat} {fn : FN} : AOL G (kStr kc fn) (rStrE G kc fn) := fun c vs us Q r x p => ⟨c, vs, rfl, r, x, p⟩
theorem call_strI {kc k : Nat} {f : Addr} {fd : FuncData} {ps : List Str} {fn : FN} (O : OwnM X.K (G.ca kc) "__str__" f) (F : FnOk X.prog X.w X.K X.mg X.base (L2.CX X.prog X.w) k f fd ps (spF G 1 fn)) (hr : Room (k + 2) X.A) (hb : Binds X.K fd ps []) : CallR X (.type "str") (rStrE G kc fn) := by
  intro pins s σ H xs us Q I r h
  obtain ⟨c, vs, rfl, rl, x, p⟩ := h
  unfold kStr at p
  split at p
  · rename_i v
    cases x with
    | cons x xr =>
      cases xr
      obtain ⟨u2, rfl, rx⟩ := vals1 r
      · cases q1 : fldsOf v c.h with
        | none => rw [q1] at p; exact p.elim
        | some kf =>
          obtain ⟨k', fs⟩ := kf
          rw [q1] at p
          simp only at p
          by_cases hk : k' = kc
          · rw [if_pos hk] at p
            subst hk
            obtain ⟨pp, dx, uf, rfl, ep, xf⟩ := inst_at rl x q1
            obtain rfl : u2 = Value.ref pp := rx
            obtain ⟨mA, J, _⟩ := ins_get I.hok ep
            obtain ⟨od, J, _⟩ := J.look
            have hp : Post G (RV G) c (fun _ _ _ => False) (fun u H' => ∃ z, u = .str z ∧ Q (.str z) H') (fn [v] c.h) := by
              revert p
              cases e : fn [v] c.h with
              | exc _ _ _ => exact fun p => p.elim
              | stuck => exact fun p => p.elim
              | ok z h' =>
                cases z with
                | str bb => intro p c1 u N e1 x1; cases x1 with | str kz => exact ⟨bb, rfl, p c1 _ N e1 (.str kz)⟩
                | _ => exact fun p => p.elim
            have hsp : spF G 1 fn [.ref pp] c.H (fun u H' => ∃ z, u = .str z ∧ Q (.str z) H') (fun _ _ _ => False) := sp_of rl (.cons x .nil) rfl hp
            have hl := F.len _ _ _ _ hsp
            have r2 : Vals [V.ref pp] [Value.ref pp] := .cons rfl .nil
            have hr2 : Room k X.A.in1.in1 := hr.in1.in1
            refine PySem.W.kso_call hr2.units0 I.kIn J O.at_ O.fn (wpAny_call (codeAny_mono (F.run X.A.in1.in1 X.stack s c.H ⟨[.ref pp], []⟩ [.ref pp] [.ref pp] _ (fun _ _ _ => False) hr2 I.env0.in1.in1 (by
              have := hb s [.ref pp] I.kIn (by simpa using hl)
              simpa using this) r2 hsp) fun r s' hq => ?_))
            cases r with
            | error e => exact False.elim (by obtain ⟨_, _, _, _, _, _, _, _, _, _, _, _, z⟩ := hq; exact z)
            | ok fl =>
              cases fl with
              | ret u =>
                obtain ⟨z, H', I', rz, ⟨bb, ez, q⟩⟩ := I.after hq
                subst ez
                obtain ⟨tk, rfl⟩ := rz
                exact ⟨.str bb, H', I', ⟨tk, rfl⟩, q⟩
              | next => exact False.elim hq
              | brk => exact False.elim hq
              | cont => exact False.elim hq
          · rw [if_neg hk] at p; exact p.elim
  · exact p.elim
end
end PI
/-! PIz: dicts that nobody changes. -/
namespace PI
open PySem PySem.Spec PyProof.Rows L2 ClX
def keyA : AV → Option Key
  | .int i => some (.inl i)
  | .str x => some (.inr x)
  | _ => none
def valA (kvs : List (Key × AV)) (k : Key) : Option AV := (kvs.find? fun kv => decide (kv.1 = k)).map (·.2)
def putA (kvs : List (Key × AV)) (k : Key) (v : AV) : List (Key × AV) :=
  if (kvs.any fun kv => decide (kv.1 = k)) = true then kvs.map (fun kv => if kv.1 = k then (kv.1, v) else kv) else kvs ++ [(k, v)]
def dropA (kvs : List (Key × AV)) (k : Key) : List (Key × AV) := kvs.filter fun kv => decide (kv.1 ≠ k)
def mergeA (kvs more : List (Key × AV)) : List (Key × AV) := more.foldl (fun acc kv => putA acc kv.1 kv.2) kvs
abbrev MP := AS → AH → Res (List (Key × AV))
def mPairs : List (ME × ME) → MP
  | [] => fun _ h => .ok [] h
  | (mk, mv) :: r => fun τ h => (mk τ h).bind fun k h => match keyA k with
    | some k => (mv τ h).bind fun v h => (mPairs r τ h).bind fun ps h => .ok ((k, v) :: ps) h
    | none => .stuck
def mDisp (prs : List (ME × ME)) : ME := fun τ h => (mPairs prs τ h).bind fun ps h => if decide (ps.length ≤ 15) then .ok (.fd (mergeA [] ps)) h else .stuck
section
variable {G : Gx} {B : Bx} {zs : Addr → Prop} {W : WX} {X : Cx} {c c' : Cfg} {L : List Addr} {τ : AS} {σ : SL} {pos pos' p apos cpos : Pos} {e o a : Expr} {es : List Expr} {m n mo me : ME} {ma mi mk : MA} {mt : MT} {x s : Str} {i : Nat} {vs : List Nat}
theorem RVd.val {xs : List (Key × AV)} {us : List (Key × V)} (r : RVd G c xs us) (k : Key) : match valA xs k with
    | some v => ∃ u, valV us k = some u ∧ RV G c v u
    | none => valV us k = none := by
  induction xs generalizing us with
  | nil => cases r; rfl
  | cons p xs ih =>
    cases r with
    | @cons k' v _ u us hk x t =>
      by_cases h : k' = k
      · subst h
        have e1 : valA ((k', v) :: xs) k' = some v := by simp [valA, List.find?_cons]
        rw [e1]
        exact ⟨u, valV_pos rfl, x⟩
      · have e1 : valA ((k', v) :: xs) k = valA xs k := by simp [valA, List.find?_cons, h]
        rw [e1]
        have := ih t
        rw [valV_neg (p := (k', u)) h]
        exact this
theorem RVd.any {xs : List (Key × AV)} {us : List (Key × V)} (r : RVd G c xs us) (k : Key) : (xs.any fun kv => decide (kv.1 = k)) = us.any fun kv => decide (kv.1 = k) := by
  induction xs generalizing us with
  | nil => cases r; rfl
  | cons p xs ih => cases r with | cons hk x t => rw [List.any_cons, List.any_cons, ih t]
theorem RVd.put {xs : List (Key × AV)} {us : List (Key × V)} {k : Key} {v : AV} {u : V} (hk : kOk k = true) (y : RV G c v u) (r : RVd G c xs us) : RVd G c (putA xs k v) (putK us k u) := by
  unfold putA putK
  rw [r.any k]
  by_cases h : (us.any fun kv => decide (kv.1 = k)) = true
  · rw [if_pos h, if_pos h]
    clear h
    induction xs generalizing us with
    | nil => cases r; exact .nil
    | cons p xs ih =>
      cases r with
      | @cons k' v' _ u' us hk' x t =>
        rw [List.map_cons, List.map_cons]
        by_cases h : k' = k
        · subst h
          simp only [if_pos]
          exact .cons hk' y (ih t)
        · simp only [if_neg h]
          exact .cons hk' x (ih t)
  · rw [if_neg h, if_neg h]
    clear h
    induction xs generalizing us with
    | nil => cases r; exact .cons hk y .nil
    | cons p xs ih => cases r with | cons hk' x t => exact .cons hk' x (ih t)
theorem RVd.drop {xs : List (Key × AV)} {us : List (Key × V)} {k : Key} (r : RVd G c xs us) : RVd G c (dropA xs k) (dropK us k) := by
  unfold dropA dropK
  induction xs generalizing us with
  | nil => cases r; exact .nil
  | cons p xs ih =>
    cases r with
    | @cons k' v' _ u' us hk' x t =>
      by_cases h : k' = k
      · rw [List.filter_cons_of_neg (by simp [h]), List.filter_cons_of_neg (by simp [h])]
        exact ih t
      · rw [List.filter_cons_of_pos (by simp [h]), List.filter_cons_of_pos (by simp [h])]
        exact .cons hk' x (ih t)
theorem RVd.merge {more : List (Key × AV)} {rs : List (Key × V)} {xs : List (Key × AV)} {us : List (Key × V)} (r : RVd G c more rs) (q : RVd G c xs us) : RVd G c (mergeA xs more) (mergeK us rs) := by
  induction more generalizing rs xs us with
  | nil => cases r; exact q
  | cons p more ih => cases r with | cons hk x t => (have z := ih t (q.put hk x); exact z)
theorem key_rv {v : AV} {u : V} {k : Key} (x : RV G c v u) (e : keyA v = some k) : u = kV k ∧ kOk k = true := by
  cases x <;> first | (cases e; exact ⟨rfl, rfl⟩) | (cases e; exact ⟨rfl, by assumption⟩) | cases e
/-! d[k], k in d -/
def dctA (v : AV) (h : AH) : Option (List (Key × AV)) := match v with
  | .fd kvs => some kvs
  | .ref n => match h[n]? with
    | some (some (.dk kvs)) => some kvs
    | _ => none
  | _ => none
theorem dct_rv {v : AV} {u : V} {kvs : List (Key × AV)} (r : Rel G c) (x : RV G c v u) (e : dctA v c.h = some kvs) : ∃ a us, u = .ref a ∧ Rd c.H a (.dK us) ∧ RVd G c kvs us := by
  cases x with
  | fd q f y => cases e; exact ⟨_, _, rfl, q, y⟩
  | @ref n hn =>
    unfold dctA at e
    simp only at e
    split at e
    · rename_i xs q
      cases e
      obtain ⟨us, q1, y⟩ := r.obj n _ q
      exact ⟨_, us, rfl, .inl q1, y⟩
    · cases e
  | _ => cases e
def kDGet (v w : AV) (h : AH) : Option (AV × AH) := (dctA v h).bind fun kvs => (keyA w).bind fun k => (valA kvs k).map fun x => (x, h)
theorem ie_dget {a b : Expr} (hu : X.A.units + 1 < cLine) (ha : IE G B W X a m) (hb : IE G B W X b n) (hs : NoSl b := by exact fun _ _ => rfl) : IE G B W X (.Subscript a b pos) (mBin kDGet m n) :=
  PE.imp (pe_dget hu ha hb hs) fun σ H Q t => by
  refine two (r := fun x y H Q => ∃ a v, x = .ref a ∧ DGet H a y (some v) ∧ Q v H) (fun c v w u x Q r xv xw p => ?_) t
  unfold kDGet at p
  cases q1 : dctA v c.h with
  | none => rw [q1] at p; exact p.elim
  | some kvs =>
    rw [q1] at p
    simp only [Option.bind_some] at p
    cases q2 : keyA w with
    | none => rw [q2] at p; exact p.elim
    | some k =>
      rw [q2] at p
      simp only [Option.bind_some] at p
      obtain ⟨a, us, rfl, h1, y⟩ := dct_rv r xv q1
      obtain ⟨rfl, hk⟩ := key_rv xw q2
      have hv := y.val k
      cases q3 : valA kvs k with
      | none => rw [q3] at p; exact p.elim
      | some z =>
        rw [q3] at hv p
        obtain ⟨u2, e2, x2⟩ := hv
        exact ⟨a, u2, rfl, .inl ⟨us, k, h1, rfl, e2.symm⟩, post_fin r p x2⟩
/-! {k: v, ..} -/
inductive IPs (G : Gx) (B : Bx) (W : WX) (X : Cx) (pos : Pos) : List (Option Expr) → List Expr → List (ME × ME) → Prop where
  | nil : IPs G B W X pos [] [] []
  | cons {k v : Expr} {ks : List (Option Expr)} {vs : List Expr} {mk mv : ME} {ms : List (ME × ME)} (hk : IE G B W X k mk) (hv : IE G B W X v mv) (r : IPs G B W X pos ks vs ms) : IPs G B W X pos (some k :: ks) (v :: vs) ((mk, mv) :: ms)
theorem IPs.pps {ks : List (Option Expr)} {vs : List Expr} {ms : List (ME × ME)} (h : IPs G B W X pos ks vs ms) : PPs X pos ks vs (ms.map fun q => (tI G B W q.1, tI G B W q.2)) := by
  induction h with
  | nil => exact pps_nil
  | cons hk hv _ ih => exact pps_cons hk hv ih
def RPs (G : Gx) (c : Cfg) (ps : List (Key × AV)) (us : List (V × V)) : Prop := ∃ kvs : List (Key × V), us = kvs.map (fun kv => (kV kv.1, kv.2)) ∧ RVd G c ps kvs
theorem pairs_ok : ∀ {ms : List (ME × ME)} {σ : SL} {H : Hp} {Q : List (V × V) → Hp → Prop}, (∃ c τ L, c.H = H ∧ Rel G c ∧ RS G B c L τ σ ∧ Post G (RPs G) c (fun k d H' => W k d σ H') Q (mPairs ms τ c.h)) → tPairs (ms.map fun q => (tI G B W q.1, tI G B W q.2)) σ H Q
  | [], σ, H, Q, ⟨c, τ, L, eH, rl, s, p⟩ => by
    subst eH
    exact p c [] (.refl rl) rfl ⟨[], rfl, .nil⟩
  | (mk, mv) :: ms, σ, H, Q, ⟨c, τ, L, eH, rl, s, p⟩ => by
    refine ⟨c, τ, L, eH, rl, s, (Post.bind (R := RV G) p).imp fun u H1 ⟨c1, v, e1, N1, x1, p1⟩ => ?_⟩
    cases q : keyA v with
    | none => rw [q] at p1; exact p1.elim
    | some k =>
      rw [q] at p1
      simp only at p1
      refine ⟨c1, τ, L, e1.symm, N1.rel, s.nxt N1, (Post.bind (R := RV G) p1).imp fun u2 H2 ⟨c2, w, e2, N2, x2, p2⟩ => ?_⟩
      refine pairs_ok ⟨c2, τ, L, e2.symm, N2.rel, (s.nxt N1).nxt N2, (Post.bind (R := RPs G) p2).imp fun us H3 ⟨c3, ps, e3, N3, ⟨kvs, eu, y⟩, p3⟩ => ?_⟩
      subst e3
      subst eu
      obtain ⟨rfl, hk⟩ := key_rv x1 q
      exact p3 c3 _ (.refl N3.rel) rfl ⟨(k, u2) :: kvs, rfl, .cons hk (x2.mono N3.mv) y⟩
theorem ie_disp {ks : List (Option Expr)} {vs : List Expr} {ms : List (ME × ME)} (h : IPs G B W X pos ks vs ms) (hall : ks.all (·.isSome) = true := by rfl) (hl : ks.length = vs.length := by rfl) (h0 : ks ≠ [] := by simp) (h15 : ks.length ≤ 15 := by decide) :
    IE G B W X (.Dict ks vs pos) (mDisp ms) := PE.imp (pe_disp h.pps hall hl h0 h15) fun σ H Q ⟨c, τ, L, eH, rl, s, p⟩ => by
  subst eH
  intro D hD
  have nDZ : ¬ c.Z D := rl.nz hD
  let c1 : Cfg := { c with Z := fun a => c.Z a ∨ a = D, H := upd c.H D (.dK []) }
  have M1 : Mv c c1 := Mv.mine hD
  have r1 : Rel G c1 := rl.mine hD
  have s1 : RS G B c1 L τ σ := s.mono M1 fun a h => ⟨.inl (s.z a h), upd_ne fun y => nDZ (by rw [← y]; exact s.z a h)⟩
  refine pairs_ok ⟨c1, τ, L, rfl, r1, s1, ?_⟩
  show Post G (RPs G) c1 _ _ (mPairs ms τ c.h)
  unfold mDisp at p
  revert p
  cases mPairs ms τ c.h with
  | stuck => exact fun p => p.elim
  | exc y fy h1 =>
    intro p c2 cl d N2 e2 x2
    have M2 : Mv c2 { c2 with Z := c.Z } := Mv.fewer fun a z => by rw [N2.z]; exact .inl z
    have r2 : Rel G { c2 with Z := c.Z } := N2.rel.fewer fun a z => by rw [N2.z]; exact .inl z
    exact p { c2 with Z := c.Z } cl d ⟨r2, (M1.trans N2.mv).trans M2, rfl, fun a z => (N2.zz a (.inl z)).trans (upd_ne fun y => nDZ (by rw [← y]; exact z))⟩ e2 (x2.mono M2)
  | ok ps h1 =>
    intro p c2 us N2 e2 ⟨kvs, eu, y⟩
    subst e2
    have p : Post G (RV G) c (fun k d H' => W k d σ H') Q (if decide (ps.length ≤ 15) then .ok (.fd (mergeA [] ps)) c2.h else .stuck) := p
    by_cases hl : decide (ps.length ≤ 15) = true
    · rw [if_pos hl] at p
      have zD : c2.Z D := by rw [N2.z]; exact .inr rfl
      have hD2 : c2.H D = some (.dK []) := (N2.zz D (.inr rfl)).trans upd_same
      refine ⟨hD2, kvs, eu, by rw [← y.length]; exact of_decide_eq_true hl, ?_⟩
      have M3 : Mv c2 { c2 with H := upd c2.H D (.dK (mergeK [] kvs)) } := Mv.turn zD
      have r3 : Rel G { c2 with H := upd c2.H D (.dK (mergeK [] kvs)) } := N2.rel.turn zD
      have M4 : Mv { c2 with H := upd c2.H D (.dK (mergeK [] kvs)) } { c2 with Z := c.Z, H := upd c2.H D (.dK (mergeK [] kvs)) } := Mv.fewer (c := { c2 with H := upd c2.H D (.dK (mergeK [] kvs)) }) (Z' := c.Z) fun a z => by show c2.Z a; rw [N2.z]; exact .inl z
      have r4 : Rel G { c2 with Z := c.Z, H := upd c2.H D (.dK (mergeK [] kvs)) } := Rel.fewer (c := { c2 with H := upd c2.H D (.dK (mergeK [] kvs)) }) (Z' := c.Z) r3 fun a z => by show c2.Z a; rw [N2.z]; exact .inl z
      refine p { c2 with Z := c.Z, H := upd c2.H D (.dK (mergeK [] kvs)) } (.ref D) ⟨r4, ((M1.trans N2.mv).trans M3).trans M4, rfl, fun a z => (upd_ne fun y => nDZ (by rw [← y]; exact z)).trans ((N2.zz a (.inl z)).trans (upd_ne fun y => nDZ (by rw [← y]; exact z)))⟩ rfl (.fd (.inl upd_same) ⟨(r3.zok D zD).1, nDZ⟩ (RVd.merge ((y.mono M3).mono M4) .nil))
    · rw [if_neg hl] at p; exact p.elim
end
end PI
/-! PIne: != of an instance whose class has an own == alone. -/
namespace PI
open PySem PySem.Spec PyProof.Rows L2 ClX
section
variable {prog : Program} {w : World} {A : Around} {E : Value → Shared → Prop} {s : Shared} {K : PySem.W.Frag} {y C f : Addr} {ox : Obj} {od : Option Obj}
theorem ifBound_B {M : Model} {T id : String} {name : Str} {args : List Value} {Q : Option Value → Shared → Prop} (S : Slot T name id) (X : K.In s.heap) (I : PySem.W.InstAt s.heap y ox C od) (hs : PySem.W.findIn K (.ref C) name = some (some (.builtin id)))
    (h : wpAny M A (call (.builtin id) (.ref y :: args)) (fun v => Q (some v)) E s) : wpAny M A (callSpecialIfBound? (.ref y) name args) Q E s := by
  simp only [callSpecialIfBound?, bindSpecialIfBound?]
  refine wpAny_holding (wpAny_bind (wpAny_bind (wpAny_bind (I.type.here ((PySem.W.looks_findIn X hs).here ?_)))))
  simp only [S.bind]
  refine wpAny_bind (wpAny_askSetting (wpAny_ite ?_))
  have fin : wpAny M A (call (.builtin id) ([.ref y] ++ args) >>= fun v => pure (some v)) Q E s := wpAny_bind (wpAny_mono h (fun v s' h' => wpAny_pure h') fun _ _ h' => h')
  split
  · exact wpAny_bind (wpAny_pure (wpAny_pure fin))
  · exact wpAny_tryCatch (wpAny_bind (wpAny_pure (wpAny_pure fin)))
theorem check_slot_K {M : Model} {id owner n : String} {rest : List Value} {Q : Unit → Shared → Prop} (X : K.In s.heap) (I : PySem.W.InstAt s.heap y ox C od) (hk : builtinKind id = some .slot) (hs : splitId id = some (owner, n)) (ha : argsOk id ⟨.ref y :: rest, []⟩)
    (ho : PySem.W.subIn K (.ref C) (.type owner) = some true) (hq : Q () s) : wpAny M A (checkBuiltinCall id ⟨.ref y :: rest, []⟩) Q E s := by
  simp only [checkBuiltinCall, hk, hs]
  refine wpAny_bind ?_
  unfold isInstance
  refine wpAny_bind (I.type.here ((PySem.W.looks_subIn X ho).here ?_))
  cases hsig : Manifest.signature? id with
  | none => exact wpAny_pure hq
  | some sig =>
    simp only [argsOk, hsig] at ha
    have h2 : Bind.checkArgs id sig ⟨.ref y :: rest, []⟩ = pure () := ha
    show wpAny M A (Bind.checkArgs id sig ⟨.ref y :: rest, []⟩) Q E _
    rw [h2]; exact wpAny_pure hq
theorem objNe_K {b : Value} (X : K.In s.heap) (I : PySem.W.InstAt s.heap y ox C od) (hs : PySem.W.findIn K (.ref C) "__eq__" = some (some (.ref f))) (hf : PySem.W.isFn K (.ref f) = true) (hu : A.units < cLine) {Q : Fin → Shared → Prop}
    (hcall : wpAny (model prog w) A (call (.ref f) [.ref y, b]) (fun v s' => ∃ r, v = .bool r ∧ Q (.done (.ret (.bool (!r)))) s') E s) :
    wpAny (model prog w) A (Builtin.«object.__ne__» ⟨[.ref y, b], []⟩) Q E s := by
  unfold Builtin.«object.__ne__»
  repeat (first
    | with_reducible refine wpAny_cRoomFor hu ?_
    | (refine wpAny_bind (m := callSpecialIfBound? (.ref y) (Str.ofString "__eq__") [b])
        (PySem.W.ifBound_K X I hs hf (wpAny_mono hcall (fun r s' hr => by
          obtain ⟨b, rfl, hq⟩ := hr
          repeat (first | exact hq | exact wpAny_pure hq | exact wpAny_truthy_bool hq | (refine wpAny_bind (m := truthy (.bool _)) (wpAny_truthy_bool ?_)) | wp_step)) fun _ _ e => e)))
    | wp_step)
theorem richNe_K {h₀ : Heap} {L : Addr} {m : Str → Option Value} {b tb : Value} {Q : Value → Shared → Prop} (hu : A.units + 1 < cLine) (FF : Fr h₀ L s.heap m) (X₀ : K.In h₀) (I : PySem.W.InstAt s.heap y ox C od) (hb : PySem.W.Looks (model prog w) s.heap (typeOf b) tb) (hn : PySem.W.notFirst K C tb = true)
    (hs : PySem.W.findIn K (.ref C) "__eq__" = some (some (.ref f))) (hf : PySem.W.isFn K (.ref f) = true) (hne : PySem.W.findIn K (.ref C) "__ne__" = some (some (.builtin "object.__ne__"))) (ho : PySem.W.subIn K (.ref C) (.type "object") = some true)
    (h : wpAny (model prog w) A.in1 (call (.ref f) [.ref y, b]) (fun v s' => ∃ r, v = .bool r ∧ Q (.bool (!r)) s') E s) : wpAny (model prog w) A (richCompare .NotEq (.ref y) b) Q E s := by
  have X := X₀.keeps FF.keep
  have one : wpAny (model prog w) A (tryCompare (.ref y) "__ne__" b) (fun r s' => ∃ v, r = some v ∧ Q v s') E s := by
    simp only [tryCompare]
    refine wpAny_bind (ifBound_B F.cmp_object.ne X I hne (wpAny_call (codeAny_call_builtin F.cmp_object.ne.plain F.cmpEntry_ne (check_slot_K X I F.cmpKind_ne F.cmpSplit_ne (F.cmpArgs_ne _ _) ho
      (objNe_K (A := A.in1) X I hs hf hu (wpAny_mono h (fun v s' hv => ?_) fun _ _ e => e))))))
    obtain ⟨r, rfl, hq⟩ := hv
    first | exact ⟨r, rfl, wpAny_pure ⟨_, rfl, hq⟩⟩ | exact ⟨r, rfl, wpAny_pure (wpAny_pure ⟨_, rfl, hq⟩)⟩
  unfold richCompare
  simp only [oneThing_ref]
  refine wpAny_holding (wpAny_bind (wpAny_cRoomFor (Nat.lt_of_succ_lt hu) ?_))
  refine wpAny_bind (I.type.here (wpAny_bind (hb.here ?_)))
  split
  · rename_i q
    have e : PySem.W.subIn K tb (.ref C) = some false := by
      rcases Bool.or_eq_true_iff.mp hn with e | e
      · rw [beq_iff_eq.mp e] at q; simp at q
      · exact beq_iff_eq.mp e
    refine wpAny_bind ((PySem.W.looks_subIn X e).here ?_)
    simp only [Bool.false_eq_true, if_false]
    refine wpAny_bind (wpAny_mono one (fun r s' z => ?_) fun _ _ e => e)
    obtain ⟨v, rfl, hq⟩ := z
    exact wpAny_pure hq
  · refine wpAny_bind (wpAny_pure ?_)
    simp only [Bool.false_eq_true, if_false]
    refine wpAny_bind (wpAny_mono one (fun r s' z => ?_) fun _ _ e => e)
    obtain ⟨v, rfl, hq⟩ := z
    exact wpAny_pure hq
end
def kOwnNe (kc : Nat) (ot : AT → Bool) (f : FN) (v w : AV) (h : AH) : Option (AV × AH) := match kOwnEq kc ot f v w h with
  | some (.bl b, h') => some (.bl (!b), h')
  | _ => none
structure NeOk (G : Gx) (K : PySem.W.Frag) (kc : Nat) : Prop where
  ne : PySem.W.findIn K (.ref (G.ca kc)) "__ne__" = some (some (.builtin "object.__ne__"))
  ob : PySem.W.subIn K (.ref (G.ca kc)) (.type "object") = some true
section
variable {G : Gx} {B : Bx} {W : WX} {X : Cx} {c c' : Cfg}
def rOwnN (G : Gx) (kc : Nat) (ot : AT → Bool) (fn : FN) : R2 := fun x y H Q => ∃ (c : Cfg) (v w : AV), c.H = H ∧ Rel G c ∧ RV G c v x ∧ RV G c w y ∧ PostO G c Q (kOwnNe kc ot fn v w c.h)
theorem ao_ownne {kc : Nat} {ot : AT → Bool} {fn : FN} : AO2 G (kOwnNe kc ot fn) (rOwnN G kc ot fn) := fun c v w u x Q r xv xw p => ⟨c, v, w, rfl, r, xv, xw, p⟩
theorem op_ownne {kc k : Nat} {ot : AT → Bool} {f : Addr} {fd : FuncData} {ps : List Str} {fn : FN} (hK : X.K = G.K) (O : EqOk G X.K kc ot f) (N : NeOk G X.K kc) (F1 : FnOk X.prog X.w X.K X.mg X.base (L2.CX X.prog X.w) k f fd ps (spF G 2 fn)) (hr : Room (k + 1) X.A) (hb : Binds X.K fd ps []) : OpR X (compareOp .NotEq) (rOwnN G kc ot fn) := by
  intro pins s σ H x y u1 u2 Q I rx ry h
  obtain ⟨c, v, w, rfl, r, xv, xw, p⟩ := h
  unfold kOwnNe kOwnEq at p
  split at p
  · rename_i bb h' e
    split at e
    · rename_i k' fs t q1 q2
      by_cases hk : k' = kc ∧ ot t = true
      · rw [if_pos hk] at e
        obtain ⟨hk1, hk2⟩ := hk
        subst hk1
        obtain ⟨pp, dx, uf, rfl, ep, xf⟩ := inst_at r xv q1
        obtain rfl : u1 = Value.ref pp := rx
        obtain ⟨mA, J, _⟩ := ins_get I.hok ep
        obtain ⟨od, J, _⟩ := J.look
        obtain ⟨mm, hF⟩ := I.fr
        have hL := typ_looks (M := model X.prog X.w) hK r I xw ry q2
        have hr1 : Room k X.A.in1 := hr.in1
        show wpAny (model X.prog X.w) X.A (richCompare .NotEq (.ref pp) u2) (EP X pins σ Q) X.xe s
        refine richNe_K (by have := hr.un; omega) hF I.ok.mod.kin J hL (O.nf t hk2) O.at_ O.fn N.ne N.ob ?_
        have hp : Post G (RV G) c (fun _ _ _ => False) (fun u H' => ∃ b, u = .bl b ∧ Q (.bl (!b)) H') (fn [v, w] c.h) := by
          revert e
          cases e2 : fn [v, w] c.h with
          | exc _ _ _ => exact fun e => by cases e
          | stuck => exact fun e => by cases e
          | ok z h2 =>
            cases z with
            | bl b3 => intro e c1 u N e1 x1; cases e; cases x1; exact ⟨bb, rfl, p c1 _ N e1 .bl⟩
            | _ => exact fun e => by cases e
        have hsp : spF G 2 fn [.ref pp, y] c.H (fun u H' => ∃ b, u = .bl b ∧ Q (.bl (!b)) H') (fun _ _ _ => False) := sp_of r (.cons xv (.cons xw .nil)) rfl hp
        have hl := F1.len _ _ _ _ hsp
        have r2 : Vals [V.ref pp, y] [Value.ref pp, u2] := .cons rfl (.cons ry .nil)
        refine wpAny_call (codeAny_mono (F1.run X.A.in1 X.stack s c.H ⟨[.ref pp, u2], []⟩ [.ref pp, u2] [.ref pp, y] _ (fun _ _ _ => False) hr1 I.env0.in1 (by
          have := hb s [.ref pp, u2] I.kIn (by simpa using hl)
          simpa using this) r2 hsp) fun r s' hq => ?_)
        cases r with
        | error e => exact False.elim (by obtain ⟨_, _, _, _, _, _, _, _, _, _, _, _, z⟩ := hq; exact z)
        | ok fl =>
          cases fl with
          | ret u =>
            obtain ⟨z, H', I', rz, ⟨b4, ez, q⟩⟩ := I.after hq
            subst ez
            cases rz
            exact ⟨b4, rfl, .bl (!b4), H', I', rfl, q⟩
          | next => exact False.elim hq
          | brk => exact False.elim hq
          | cont => exact False.elim hq
      · rw [if_neg hk] at e; cases e
    · cases e
  · exact p.elim
end
def otK (kc : Nat) : AT → Bool
  | .own k => k == kc
  | .ty n => ktT n
theorem nf_of {G : Gx} {K : PySem.W.Frag} {kc : Nat} (h1 : PySem.W.notFirst K (G.ca kc) (.type "NoneType") = true) (h2 : PySem.W.notFirst K (G.ca kc) (.type "bool") = true) (h3 : PySem.W.notFirst K (G.ca kc) (.type "int") = true) (h4 : PySem.W.notFirst K (G.ca kc) (.type "str") = true)
    (h5 : PySem.W.notFirst K (G.ca kc) (.type "tuple") = true) (h6 : PySem.W.notFirst K (G.ca kc) (.type "list") = true) (h7 : PySem.W.notFirst K (G.ca kc) (.type "dict") = true) : ∀ t, otK kc t = true → PySem.W.notFirst K (G.ca kc) (G.tv t) = true := by
  intro t e
  cases t with
  | own k =>
    have : k = kc := by simpa [otK] using e
    subst this
    show (Value.ref (G.ca k) == Value.ref (G.ca k) || _) = true
    simp
  | ty n =>
    have ha : ktT n = true := e
    unfold ktT at ha
    simp only [Bool.or_eq_true, decide_eq_true_eq] at ha
    rcases ha with (((((rfl | rfl) | rfl) | rfl) | rfl) | rfl) | rfl <;> assumption
theorem ty7 {P : String → Prop} (h1 : P "NoneType") (h2 : P "bool") (h3 : P "int") (h4 : P "str") (h5 : P "tuple") (h6 : P "list") (h7 : P "dict") : ∀ n, ktT n = true → P n := by
  intro n ha
  unfold ktT at ha
  simp only [Bool.or_eq_true, decide_eq_true_eq] at ha
  rcases ha with (((((rfl | rfl) | rfl) | rfl) | rfl) | rfl) | rfl <;> assumption
/-- own classes against built-in ones: never -/
def ktG (ks : List Nat) (k : Nat) (n : String) : Option Bool := if ks.contains k && ktT n then some false else none
theorem ktG_ok {G : Gx} {K : PySem.W.Frag} {ks : List Nat} (h : ∀ k, k ∈ ks → ∀ n, ktT n = true → PySem.W.kitOne K (.type n) (.ref (G.ca k)) = some false) : ∀ k n b, ktG ks k n = some b → PySem.W.kitOne K (.type n) (.ref (G.ca k)) = some b := by
  intro k n b e
  unfold ktG at e
  by_cases q : (ks.contains k && ktT n) = true
  · rw [if_pos q] at e
    cases e
    rw [Bool.and_eq_true] at q
    exact h k (by simpa using q.1) n q.2
  · rw [if_neg q] at e; cases e
end PI
/-! PIat: attributes as targets (a, b = x, y with fields). -/
namespace PI
open PySem PySem.Spec PyProof.Rows L2 ClX
def gFld (K : PySem.W.Frag) (to : TE) (f : Str) : TG := fun v σ H Q => to σ H fun x H1 => ∃ a C dx fs, x = .ref a ∧ H1 a = some (.ins C dx fs) ∧ Cls K C ∧ NoAttr K C f ∧ fs.length < 1000 ∧ Q σ (upd H1 a (.ins C dx (putF f v fs)))
def gOwnF (ks : List Nat) (f : Nat) : MG := fun v τ => match τ with
  | some (.mI k fs) :: r => if ks.contains k && few fs then some (some (.mI k (aput f v fs)) :: r) else none
  | _ => none
section
variable {G : Gx} {B : Bx} {zs : Addr → Prop} {W : WX} {X : Cx} {c c' : Cfg} {L : List Addr} {τ : AS} {σ : SL} {pos pos' p : Pos} {o : Expr}
theorem pg_fld {to : TE} {f : Str} (ho : PE X o to) (ha : ∀ v, assign (.Attribute o f pos) X.env v = (do
      let ov ← holding [v] (eval o X.env)
      standAt pos.atName
      holding [v, ov] (setAttr ov f v)
      release [v, ov] []) := by intro _; rfl) : PG X (.Attribute o f pos) (gFld X.K to f) := by
  refine ⟨fun pins s σ H v u Q I r h => ?_⟩
  rw [ha]
  refine wpAny_bind (wpAny_holding (thn (ho.run pins s σ H _ I h) fun ov s1 ⟨x, H1, I1, r1, a, C, dx, fs, ex, ea, c, n, l, q⟩ => ?_))
  subst ex
  obtain rfl : ov = Value.ref a := r1
  refine wpAny_bind (wpAny_standAt (wpAny_bind (wpAny_holding (setattr_ok I1 ea c n l r fun s3 I3 => ?_))))
  exact wpAny_release ⟨σ, _, I3, q⟩
theorem ig_ownf {ks : List Nat} {f : Nat} {fx s : Str} {q1 : Pos} (hf : fx = G.nm f) (hks : ∀ k, k ∈ ks → FldOk G X.K f k) (hN : X.N[0]? = some s := by rfl) (hv : Vis X.env.scope s := by first | exact Or.inl rfl | exact Or.inr (Or.inl rfl)) (hd : (s == ("__debug__" : Str)) = false := by decide)
    (hcd : (s == ("__classdict__" : Str)) = false := by decide) (ha : ∀ v, assign (.Attribute (.Name s q1) fx pos) X.env v = (do
      let ov ← holding [v] (eval (.Name s q1) X.env)
      standAt pos.atName
      holding [v, ov] (setAttr ov fx v)
      release [v, ov] []) := by intro _; rfl) : IG G B zs X (.Attribute (.Name s q1) fx pos) (gOwnF ks f) := by
  subst hf
  refine PG.imp (pg_fld (pv 0 hN hv hd hcd) ha) fun u σ H Q ⟨c, τ, L, v, τ', eH, r, o, s1, x, e, k⟩ => ?_
  subst eH
  cases s1 with
  | nil => cases e
  | @cons l L2 o2 s2 τ2 σ2 sr s1 =>
    cases sr with
    | @mI k' fs dx us z1 ei xf =>
      unfold gOwnF at e
      simp only at e
      by_cases hk : (ks.contains k' && few fs) = true
      · rw [if_pos hk] at e
        cases e
        rw [Bool.and_eq_true] at hk
        have hk' : k' ∈ ks := by simpa using hk.1
        refine ⟨_, rfl, B.me, _, dx, us, rfl, ei, (hks k' hk').cl, (hks k' hk').no, len_few xf hk.2, ?_⟩
        have M := Mv.turn (O := .ins (G.ca k') dx (putF (G.nm f) u us)) z1
        have R := r.turn (O := .ins (G.ca k') dx (putF (G.nm f) u us)) z1
        have nd := o.nd
        rw [List.cons_append, List.nil_append, List.nodup_cons] at nd
        exact k _ _ _ ⟨R, M, ⟨o.low, o.dis, o.nd⟩, fun a za => upd_ne fun y => o.dis B.me (by simp) (by rw [← y]; exact za), fun _ h => .inl h⟩ rfl (.cons (.mI z1 upd_same ((xf.put x).mono M)) (s1.mono M fun a h => ⟨s1.z a h, upd_ne fun y => nd.1 (by rw [← y]; exact h)⟩))
      · rw [if_neg hk] at e; cases e
    | skip => cases e
    | @val v _ q => cases v <;> first | cases e | cases q
    | mL _ _ _ => cases e
    | mD _ _ _ => cases e
    | mE _ => cases e
end
end PI
/-! PIin: in, not in for any plain data and a list. -/
namespace PI
open PySem PySem.Spec PyProof.Rows L2 ClX
def kInD (neg : Bool) (v w : AV) (h : AH) : Option (AV × AH) := match dat 12 v, dat 12 w with
  | some d, some (.list ds) => if SeqAt.shaped d && SeqAt.shaped (.list ds) then some (.bl (if neg then !ds.any fun z => PyData.eqv z d else ds.any fun z => PyData.eqv z d), h) else none
  | _, _ => none
def rInDA (K : PySem.W.Frag) (neg : Bool) : R2 := fun x y H Q => ∃ d ds, Dp K H x d ∧ Dp K H y (.list ds) ∧ SeqAt.shaped d = true ∧ SeqAt.shaped (.list ds) = true ∧ Q (.bl (if neg then !ds.any fun z => PyData.eqv z d else ds.any fun z => PyData.eqv z d)) H
section
variable {G : Gx} {X : Cx} {c : Cfg}
theorem op_inDA {k : Nat} (hr : Room k X.A) : OpR X (compareOp .In) (rInDA X.K false) := op_inD (by have := hr.un; omega)
theorem op_notInDA {k : Nat} (hr : Room k X.A) : OpR X (compareOp .NotIn) (rInDA X.K true) := op_notInD (by have := hr.un; omega)
theorem ao_inD (hK : X.K = G.K) (neg : Bool) : AO2 G (kInD neg) (rInDA X.K neg) := fun c v w u x Q r xv xw p => by
  unfold kInD at p
  split at p
  · rename_i d ds q1 q2
    by_cases h : (SeqAt.shaped d && SeqAt.shaped (.list ds)) = true
    · rw [if_pos h] at p
      rw [Bool.and_eq_true] at h
      exact ⟨d, ds, (dat_ok hK 12 v u d q1 xv).1, (dat_ok hK 12 w x _ q2 xw).1, h.1, h.2, post_fin r p .bl⟩
    · rw [if_neg h] at p; exact p.elim
  · exact p.elim
end
end PI
/-! PIlr: a comprehension whose list stands on the plain heap. -/
namespace PI
open PySem PySem.Spec PyProof.Rows L2 ClX
def lcR (g : MG) (mt : MT) (me : ME) (τ : AS) (n : Nat) : List AV → AH → Res AV
  | [], h => .ok (.ref n) h
  | v :: r, h => match g v τ with
    | none => .stuck
    | some τ2 => (noX (mt τ2 h)).bind fun b h => if b then (noX (me τ2 h)).bind fun y h => match h[n]? with
      | some (some (.lst acc)) => if small (acc.length + 1) then lcR g mt me τ n r (h.set n (some (.lst (acc ++ [y])))) else .stuck
      | _ => .stuck
      else lcR g mt me τ n r h
def mLcR (vs : List Nat) (g : MG) (mi : MA) (mt : MT) (me : ME) : ME := fun τ h => (mi τ h).bind fun xs h => lcR g mt me (wipeA τ vs) h.length xs (h ++ [some (.lst [])])
section
variable {G : Gx} {B : Bx} {zs : Addr → Prop} {W : WX} {X : Cx} {c c' : Cfg} {L : List Addr} {τ : AS} {σ : SL} {pos pos' p : Pos} {e o a : Expr} {me : ME} {mt : MT} {x s : Str} {i : Nat} {vs : List Nat}
theorem lcr_ok {mi : MA} {g : MG} {σ : SL} {H : Hp} {Q : VK} (vs : List Nat) (t : tI G B W (mLcR vs g mi mt me) σ H Q) : tLc (tIi G B W mi) (tGe G B vs g) (tIt G B W0 mt) (tI G B W0 me) vs σ H Q := by
  obtain ⟨c, τ, L, eH, rl, s, p⟩ := t
  refine ⟨c, τ, L, eH, rl, s, (Post.bind (R := fun c' (vs : List AV) (J : It) => Goes G c' J vs) p).imp fun J H1 ⟨c1, xs, e1, N1, ⟨Gd, Y, w, hG, hY⟩, p1⟩ => ?_⟩
  subst e1
  have s1 := s.nxt N1
  intro D hD
  obtain ⟨L0, hL0, sw⟩ := s1.wipeAll vs
  have N0 := Nxt.alloc (o := .lst []) (H' := upd c1.H D (.lst [])) N1.rel hD (fun b o z => by rw [upd_ne (ne_of_none z hD)]; exact z) fun c' M e => ⟨[], by rw [e, upd_same], .nil⟩
  refine ⟨fun i k H => ∃ c2 : Cfg, c2.H = H ∧ k + i = xs.length ∧ Nxt G c1 c2 ∧ c1.h.length < c2.h.length ∧ c2.rho c1.h.length = D ∧ Post G (RV G) c2 (fun k d H' => W k d σ H') Q (lcR g mt me (wipeA τ vs) c1.h.length (xs.drop i) c2.h),
    ⟨xs.length, _, rfl, rfl, N0, by simp, ext_same, Post.trans N0 p1⟩, ?_⟩
  rintro i k H ⟨c2, rfl, hk, N2, hn, hr, p2⟩
  have hg2 := hG c2 N2.mv
  by_cases hi2 : i < xs.length
  · refine .inr ⟨w.goes i c2.H hi2 hg2, fun H' => ∃ k', k' < k ∧ ∃ c3 : Cfg, c3.H = H' ∧ k' + (i + 1) = xs.length ∧ Nxt G c1 c3 ∧ c1.h.length < c3.h.length ∧ c3.rho c1.h.length = D ∧ Post G (RV G) c3 (fun k d H' => W k d σ H') Q (lcR g mt me (wipeA τ vs) c1.h.length (xs.drop (i + 1)) c3.h), fun H' h => h, fun x H' y => ?_⟩
    obtain ⟨N3, x3⟩ := hY c2 i x H' xs[i] N2.mv N2.rel (by simp [hi2]) (w.yields i c2.H x H' hi2 hg2 y)
    rw [List.drop_eq_getElem_cons hi2] at p2
    unfold lcR at p2
    cases q : g xs[i] (wipeA τ vs) with
    | none => rw [q] at p2; exact p2.elim
    | some τ2 =>
      rw [q] at p2
      simp only at p2
      have sw3 := (sw.nxt N2).nxt N3
      refine ⟨{ c2 with H := H' }, _, L0, xs[i], τ2, rfl, N3.rel, sw3, x3, q, fun σ2 s2 hw => ⟨hw.trans wipe_idem, { c2 with H := H' }, τ2, L0, rfl, N3.rel, s2, ?_⟩⟩
      revert p2
      cases eT : mt τ2 c2.h with
      | exc _ _ _ => exact fun p2 => p2.elim
      | stuck => exact fun p2 => p2.elim
      | ok b h4 =>
        intro p2 c4 u4 N4 e4 x4
        subst x4
        subst e4
        have p2 := Post.trans (N3.trans N4) p2
        have p2 : Post G (RV G) c4 (fun k d H' => W k d σ H') Q (if b = true then (noX (me τ2 c4.h)).bind fun y h => (match h[c1.h.length]? with
          | some (some (.lst acc)) => if small (acc.length + 1) then lcR g mt me (wipeA τ vs) c1.h.length (xs.drop (i + 1)) (h.set c1.h.length (some (.lst (acc ++ [y])))) else .stuck
          | _ => .stuck) else lcR g mt me (wipeA τ vs) c1.h.length (xs.drop (i + 1)) c4.h) := p2
        have N14 := N2.trans (N3.trans N4)
        have hn4 : c1.h.length < c4.h.length := Nat.lt_of_lt_of_le hn (N3.trans N4).mv.len
        have hr4 : c4.rho c1.h.length = D := ((N3.trans N4).mv.same _ hn).trans hr
        cases b with
        | false =>
          rw [if_neg Bool.false_ne_true] at p2 ⊢
          exact ⟨k - 1, by omega, c4, rfl, by omega, N14, hn4, hr4, p2⟩
        | true =>
          rw [if_pos rfl] at p2 ⊢
          refine ⟨c4, τ2, L0, rfl, N4.rel, s2.nxt N4, ?_⟩
          revert p2
          cases eE : me τ2 c4.h with
          | exc _ _ _ => exact fun p2 => p2.elim
          | stuck => exact fun p2 => p2.elim
          | ok y h5 =>
            intro p2 c5 u5 N5 e5 x5
            subst e5
            have p2 := Post.trans N5 p2
            simp only [noX, Res.bind] at p2
            split at p2
            · rename_i acc q5
              by_cases hl : small (acc.length + 1) = true
              · rw [if_pos hl] at p2
                obtain ⟨us, q6, y6⟩ := lst_at N5.rel q5
                have hr5 : c5.rho c1.h.length = D := (N5.mv.same _ hn4).trans hr4
                rw [hr5] at q6
                have N6 := Nxt.write (o' := .lst (acc ++ [y])) (O := .lst (us ++ [u5])) N5.rel q5 fun c' M e => ⟨_, e, (RVs.append y6 (.cons x5 .nil)).mono M⟩
                rw [hr5] at N6
                refine ⟨us, q6, by rw [← y6.length]; exact Nat.lt_of_lt_of_le (Nat.lt_succ_self _) (small_le hl), k - 1, by omega, _, rfl, by omega, (N14.trans N5).trans N6, ?_, hr5, Post.trans N6 p2⟩
                exact Nat.lt_of_lt_of_le hn4 (Nat.le_trans N5.mv.len N6.mv.len)
              · rw [if_neg hl] at p2; exact p2.elim
            · exact p2.elim
  · have hk0 : i = xs.length := by omega
    subst hk0
    refine .inl ⟨w.stops c2.H hg2, ?_⟩
    rw [List.drop_length] at p2
    have y : RV G c2 (.ref c1.h.length) (.ref (c2.rho c1.h.length)) := .ref hn
    rw [hr] at y
    exact p2 c2 (.ref D) (.refl N2.rel) rfl y
theorem ie_lcR {mi : MA} {elt tg iter : Expr} {ifs : List Expr} {scope : Scope} (own : List (Str × Nat)) {g : MG} (hN : X.N.Nodup) (ok : BlkOk X.N X.env.scope scope own) (hi : II G B W X tg iter mi)
    (hg : ∀ (s : Shared) (H : Hp) (C : Addr) (cl : List (Str × Addr)) (fp : List Addr), IGe G B (own.map (·.2)) (X.blk s H scope (compEnvC scope cl C X.env) fp) tg g) (ht : ∀ (s : Shared) (H : Hp) (C : Addr) (cl : List (Str × Addr)) (fp : List Addr), PTs (X.blk s H scope (compEnvC scope cl C X.env) fp) ifs (tIt G B W0 mt))
    (he : ∀ (s : Shared) (H : Hp) (C : Addr) (cl : List (Str × Addr)) (fp : List Addr), IE G B W0 (X.blk s H scope (compEnvC scope cl C X.env) fp) elt me) (hc : X.calm = true := by rfl) (hs : ∀ x, foldedSetIterable iter X.env x = pure x := by intro _; rfl) :
    IE G B W X (.ListComp elt [⟨tg, iter, ifs, 0⟩] scope pos) (mLcR (own.map (·.2)) g mi mt me) :=
  PE.imp (pe_lc hc hN hi ok hg ht he hs) fun _ _ _ t => lcr_ok _ t
theorem is_setlcR {mi : MA} {elt tg iter : Expr} {ifs : List Expr} {scope : Scope} {py : Pos} {y : Str} (i : Nat) (own : List (Str × Nat)) {g : MG} (hN : X.N.Nodup) (ok : BlkOk X.N X.env.scope scope own) (hi : II G B W X tg iter mi)
    (hg : ∀ (s : Shared) (H : Hp) (C : Addr) (cl : List (Str × Addr)) (fp : List Addr), IGe G B (own.map (·.2)) (X.blk s H scope (compEnvC scope cl C X.env) fp) tg g) (ht : ∀ (s : Shared) (H : Hp) (C : Addr) (cl : List (Str × Addr)) (fp : List Addr), PTs (X.blk s H scope (compEnvC scope cl C X.env) fp) ifs (tIt G B W0 mt))
    (he : ∀ (s : Shared) (H : Hp) (C : Addr) (cl : List (Str × Addr)) (fp : List Addr), IE G B W0 (X.blk s H scope (compEnvC scope cl C X.env) fp) elt me) (hc : X.calm = true := by rfl) (hs : ∀ x, foldedSetIterable iter X.env x = pure x := by intro _; rfl)
    (hy : X.N[i]? = some y := by rfl) (hyl : X.env.scope.names.lookup y = some .local := by rfl) (hsw : swapsWith (.ListComp elt [⟨tg, iter, ifs, 0⟩] scope pos) (some (.Name y py)) pos'.line X.env = pure true := by rfl) :
    IS G B zs W X (.Assign [.Name y py] (.ListComp elt [⟨tg, iter, ifs, 0⟩] scope pos) pos') (sSet i (mLcR (own.map (·.2)) g mi mt me)) :=
  PS.imp (ps_setLc hc hN hy hyl hsw hi ok hg ht he hs) fun D σ H ⟨c, τ, L, eH, r, o, s, p⟩ => by
  refine lcr_ok _ ⟨c, τ, L, eH, r, s, (PostS.bindS (R := RV G) o s p).imp fun u H1 ⟨c1, v, e1, N1, x1, p1⟩ => ?_⟩
  subst e1
  by_cases hl : i < τ.length
  · rw [if_pos hl] at p1
    obtain ⟨L', S, s'⟩ := RS.put N1.rel (o.nxt N1) (s.nxt N1) hl x1
    exact p1 c1 L' _ S rfl s'
  · rw [if_neg hl] at p1
    exact p1.elim
end
end PI
/-! enumerate(a tuple); zip of lists and tuples. -/
namespace PI
open PySem PySem.Spec PyProof.Rows L2
theorem enum_new1 {v : Value} {o : Obj} {H : Heap → Prop} (B : Begins v o H) :
    Meets (Builtin.«enumerate.__new__» ⟨[.type "enumerate", v], []⟩) (fun _ R s => H s.heap ∧
      R (.ok (.ret (.ref (s.heap.push o).objs.size))) { s with heap := (s.heap.push o).push { cls := .type "enumerate", data := .fields #[.none, .bool false, .ref s.heap.objs.size, rawInt 0, .none, .none] } }) :=
  .of_wp fun prog w A R s h => by
    obtain ⟨hp, g, d, tk, os⟩ := s; obtain ⟨h1, h⟩ := h
    have hsub := sub_enumerate
    have q1 : ∀ {A' : Around} {E : Value → Shared → Prop} {Q : Value → Shared → Prop}, Q (.ref hp.objs.size) ⟨hp.push o, g, d, tk, os⟩ → wpAny (model prog w) A' (pyIter v) Q E ⟨hp, g, d, tk, os⟩ :=
      fun q => B.iter prog w _ _ ⟨hp, g, d, tk, os⟩ _ h1 q
    wp_walk using q1
    refine wpAny_stack_any fun st => wpAny_pure ?_
    split
    · rename_i c _ _ _ _ _
      cases (c == Value.type "enumerate")
      · wp_walk using q1
        exact ⟨_, rfl, h⟩
      · wp_walk using q1
        exact ⟨_, rfl, h⟩
    · wp_walk using q1
      exact ⟨_, rfl, h⟩
theorem enum_begin1 {prog : Program} {w : World} {A : Around} {E : Value → Shared → Prop} {s : Shared} {v : Value} {o : Obj} {H : Heap → Prop} {Q : Value → Shared → Prop} (B : Begins v o H) (h1 : H s.heap)
    (h : ∀ h', IsEnum h' (s.heap.objs.size + 1) s.heap.objs.size 0 .none → h'.get? s.heap.objs.size = some o → h'.objs.size = s.heap.objs.size + 2 →
      (∀ b o, s.heap.get? b = some o → h'.get? b = some o) → Q (.ref (s.heap.objs.size + 1)) { s with heap := h' }) :
    wpAny (model prog w) A (call (.type "enumerate") [v]) Q E s := by
  refine callType_new F.called_enumerate (by decide) (F.typeCall_enumerate_1 _) (F.newCall_enumerate_1 _) (fun obj => F.args_object_init_2 obj _) F.entry_enumerate_new
    (enum_new1 B) ⟨h1, ?_⟩
  have hz : (s.heap.push o).objs.size = s.heap.objs.size + 1 := Heap.size_push ..
  show _ ∧ _
  rw [hz]
  have he : IsEnum ((s.heap.push o).push { cls := .type "enumerate", data := .fields #[.none, .bool false, .ref s.heap.objs.size, rawInt 0, .none, .none] }) (s.heap.objs.size + 1) s.heap.objs.size 0 .none := by
    have := Heap.get?_push_size (s.heap.push o) (o := { cls := .type "enumerate", data := .fields #[.none, .bool false, .ref s.heap.objs.size, rawInt 0, .none, .none] }) rfl
    rw [hz] at this; exact this
  refine ⟨⟨_, he, rfl⟩, h _ he (Heap.get?_push_of_some _ (Heap.get?_push_size _ B.free)) (by rw [Heap.size_push, hz]) fun b o x => Heap.get?_push_of_some _ (Heap.get?_push_of_some _ x)⟩
/-- the tuple at a, each item in a new pair -/
def IteT (K : PySem.W.Frag) (a : Addr) : It :=
  ⟨fun i H => ∃ (xs : List V) (x : V), SqT K H a xs ∧ xs[i]? = some x, fun i H v H' => ∃ T x, v = .ref T ∧ H T = none ∧ H' = upd H T (.tup [.int (i : Nat), x]) ∧ ∀ xs, SqT K H a xs → xs[i]? = some x, fun i H => ∃ xs : List V, SqT K H a xs ∧ xs.length ≤ i⟩
theorem turn_enumT {P : Program} {w : World} {K : PySem.W.Frag} {elts : List Expr} {kk : Nat} {tpos : Pos} (a e it : Addr) (hae : a ≠ e) (hai : a ≠ it) :
    Turn P w K (.Tuple elts kk tpos) (IteT K a) [e, it] e (fun i h => (∃ old, IsEnum h e it ((i : Nat) : Int) old) ∧ h.IsTupleIter it a i ∧ e ≠ it) where
  mem := by simp
  obj := fun i h st b hb => by
    obtain ⟨⟨old, he⟩, ⟨o, ho, hc, hd⟩, _⟩ := st
    have e' : b = e ∨ b = it := by simpa using hb
    rcases e' with z | z
    · rw [z]; exact ⟨_, he, fun v q => nomatch q⟩
    · rw [z]; exact ⟨o, ho, fun v q => by rw [hd] at q; cases q⟩
  keep := fun i h h' st k => let ⟨⟨old, he⟩, hi, hne⟩ := st; ⟨⟨old, k e (by simp) _ he⟩, hi.at fun o q => k it (by simp) o q, hne⟩
  item := by
    intro X hP hw hK hc i pins s σ H E I hf st hg
    subst hP hw hK
    obtain ⟨⟨old, he⟩, hit, hne⟩ := st
    obtain ⟨xs, x, hq, hx⟩ := hg
    obtain ⟨its, rv, p, hz⟩ := I.tuple hq
    obtain ⟨u, hu, ru⟩ := rv.get hx
    have hel : e < s.heap.objs.size := Heap.lt_size he
    have hil : it < s.heap.objs.size := by obtain ⟨_, q, _⟩ := hit; exact Heap.lt_size q
    have hlt : i < its.toArray.size := by
      have := (List.getElem?_eq_some_iff.mp hu).1
      simpa using this
    refine wpAny_pyNext_enum_itemD (Draws.tuple (A := X.A.in1) (I.ok.hd hc) it a hai its.toArray) he ⟨hit, p⟩ hlt hne (by simp only [List.mem_cons, List.not_mem_nil, or_false, not_or]; exact ⟨hne, Ne.symm hae⟩) fun x' h' tk hP ho hst' hT hsz hk => ?_
    have hx' : u = x' := by
      have h1 : its.toArray[i]? = some u := by simpa using hu
      have h2 : its.toArray[i]? = some x' := hP
      rw [h1] at h2
      exact Option.some.inj h2
    subst hx'
    refine ⟨_, rfl, wpAny_letOwnedTupleGo_enum (s := { s with heap := h', toks := tk + 1 }) ho fun h'' he' sb => ?_⟩
    have hT2 : h''.get? s.heap.objs.size = some { cls := .type "tuple", data := .seq #[.int i tk, u] } := (sb.2 _ (Nat.ne_of_gt hel)).trans hT
    have new : ObjOk X.prog X.w (upd H s.heap.objs.size (.tup [.int (i : Nat), x])) h'' s.heap.objs.size (.tup [.int (i : Nat), x]) :=
      ⟨by show 2 ≤ sizeLine; decide, [.int i tk, u], .cons ⟨_, rfl⟩ (.cons ru .nil), ⟨_, hT2, rfl, _, rfl⟩⟩
    have I1 : Inv X pins σ (upd H s.heap.objs.size (.tup [.int (i : Nat), x])) { s with heap := h'', toks := tk + 1 } :=
      I.turnedNew (ch := [e, it]) (fun b ob hb q => (sb.2 b (fun z => hb (by simp [z]))).trans (hk b ob (fun z => hb (by simp [z])) (fun z => hb (by simp [z])) q)) hf (Nat.le_refl _) new
    refine ⟨.ref s.heap.objs.size, _, I1, rfl, ⟨_, x, rfl, I.hok.fresh (Nat.le_refl _), rfl, fun ys hy => by rw [I.tuple_inj hy hq]; exact hx⟩, ⟨⟨u, ?_⟩, hst'.1.at fun o q => (sb.2 it (Ne.symm hne)).trans q, hne⟩, fun b hb => ?_⟩
    · have e1 : ((i + 1 : Nat) : Int) = (i : Int) + 1 := by omega
      rw [e1]; exact he'
    · have hb' : b < s.heap.objs.size := by
        have e' : b = e ∨ b = it := by simpa using hb
        rcases e' with z | z
        · rw [z]; exact hel
        · rw [z]; exact hil
      rw [upd_ne (Nat.ne_of_lt hb')]
      exact (hf b hb).1
  done := by
    intro X hP hw hK hc i pins s σ H E I hf st hg
    subst hP hw hK
    obtain ⟨⟨old, he⟩, hit, hne⟩ := st
    obtain ⟨xs, hq, hx⟩ := hg
    obtain ⟨its, rv, p, hz⟩ := I.tuple hq
    obtain ⟨f0, f1, f2, f3, f4, f5⟩ := hf it (by simp)
    have hl := rv.length
    have hend : ∀ {E' : Value → Shared → Prop} {Q' : Value → Shared → Prop}, (∀ h' e, Heap.ExtBut it s.heap h' → (∃ o, h'.get? e = some o ∧ o.cls = .type "StopIteration") → E' (.ref e) { s with heap := h' }) → wpAny (model X.prog X.w) X.A.in1 (Builtin.SmallTypes.nextOf (.ref it)) Q' E' s := fun q =>
      wpAny_nextOf_tuple_end (A := X.A.in1) (I.ok.hd hc) hit p (by simp; omega) q
    have hT : s.TypeIs (.ref e) "enumerate" := ⟨_, he, rfl⟩
    unfold pyNext
    refine wpAny_bind (wpAny_attempt (wpAny_callSpecial?_slot (name := Str.ofString "__next__") hT F.slot_enumerate_next
      (wpAny_call_entry F.slot_enumerate_next hT F.entry_enumerate_next ?_ (F.args_enumerate_next_1 _))))
    show wpAny _ _ (field (.ref e) 2 >>= _) _ _ _
    refine wpAny_bind (wpAny_field he rfl (x := .ref it) rfl ?_)
    refine wpAny_bind (hend fun h' x he' hx' => ?_)
    obtain ⟨o, ho, hc2⟩ := hx'
    refine wpAny_bind (wpAny_isInstance (T := "StopIteration") (b := true) ⟨o, ho, hc2⟩ isSubtype_stop ?_)
    exact wpAny_pure ⟨rfl, I.turned (t' := s.toks) (fun b o hb q => he' b o hb q) f0 f1 f3 f4 f5⟩
  self := fun A i s Q E st h => let ⟨⟨_, he⟩, _⟩ := st; wpAny_pyIter_enum he h
section
variable {G : Gx} {B : Bx} {W : WX} {X : Cx} {c c' : Cfg} {pos p : Pos} {e : Expr} {ma : MA}
def iEnumA (K : PySem.W.Frag) (ta : TA) : TI := fun σ H R => ta σ H fun vs H1 => ∃ a xs, vs = [.ref a] ∧ ((SqL K H1 a xs ∧ R (Ite K a) H1) ∨ (SqT K H1 a xs ∧ R (IteT K a) H1))
theorem pi_enumA {ta : TA} {tpos : Pos} {elts : List Expr} {kk : Nat} (hg : Gl X "enumerate") (hm : X.mg "enumerate" = none) (ha : PA X [e] ta) (hs : starEach [e] X.env = [(false, eval e X.env)] := by rfl) :
    PI X (.Tuple elts kk tpos) (.Call (.Name "enumerate" p) [e] [] pos) (iEnumA X.K ta) := by
  refine ⟨fun pins s σ H R I h => ?_⟩
  refine Call_ (ld_blt I hg hm boot_enumerate (PyProof.Rows.callWith_type1 (thn (ha.run pos pins s σ H _ I h) fun us s1 ⟨vs, H1, I1, r1, q1⟩ => ?_) hs rfl))
  obtain ⟨a, xs, ex, q1⟩ := q1
  subst ex
  cases r1 with
  | cons r rr =>
    cases rr
    cases r
    have fp2 : ∀ b, b ∈ [s1.heap.objs.size + 1, s1.heap.objs.size] → FpOk X pins H1 b := fun b hb => by
      have e' : b = s1.heap.objs.size + 1 ∨ b = s1.heap.objs.size := by simpa using hb
      have hle : s1.heap.objs.size ≤ b := by
        rcases e' with z | z
        · rw [z]; exact Nat.le_add_right _ _
        · rw [z]; exact Nat.le_refl _
      exact I1.fpOk hle (I1.hok.fresh hle)
    rcases q1 with ⟨hq, q⟩ | ⟨hq, q⟩
    · obtain ⟨its, rv, p', hz⟩ := I1.list hq
      refine call_enumerate_list p'.isList fun h' he hit hsz hk => wpAny_pyIter_enum he ?_
      have I2 : Inv X pins σ H1 { s1 with heap := h' } := I1.kept (t' := s1.toks) hk
      exact ⟨s1.heap.objs.size + 1, [s1.heap.objs.size + 1, s1.heap.objs.size], _, _, H1, rfl, I2, turn_enum a (s1.heap.objs.size + 1) s1.heap.objs.size, ⟨⟨.none, he⟩, hit, Nat.succ_ne_self _⟩, fp2, q⟩
    · obtain ⟨its, rv, p', hz⟩ := I1.tuple hq
      have hlt : a < s1.heap.objs.size := by
        obtain ⟨o, ho, _⟩ := id p'
        exact Heap.lt_size ho
      refine enum_begin1 (begins_tuple a its.toArray) p' fun h' he hit hsz hk => wpAny_pyIter_enum he ?_
      have I2 : Inv X pins σ H1 { s1 with heap := h' } := I1.kept (t' := s1.toks) hk
      exact ⟨s1.heap.objs.size + 1, [s1.heap.objs.size + 1, s1.heap.objs.size], _, _, H1, rfl, I2, turn_enumT a (s1.heap.objs.size + 1) s1.heap.objs.size (Nat.ne_of_lt (Nat.lt_succ_of_lt hlt)) (Nat.ne_of_lt hlt), ⟨⟨.none, he⟩, ⟨_, hit, rfl, rfl⟩, Nat.succ_ne_self _⟩, fp2, q⟩
theorem walk_enumT {K : PySem.W.Frag} {a : Addr} {xs : List V} : Walk (IteT K a) xs.length (fun H => SqT K H a xs) (YPair (fun i => some (.int (i : Nat))) (fun i => xs[i]?)) := by
  refine ⟨fun i _ hi q => ⟨xs, xs[i], q, by simp [hi]⟩, fun _ q => ⟨xs, q, Nat.le_refl _⟩, fun i H v H' _ q y => ?_⟩
  obtain ⟨T, x, h1, h2, h3, h4⟩ := y
  exact ⟨T, .int (i : Nat), x, h1, h2, h3, rfl, h4 xs q⟩
theorem enum_nth {xs : List AV} {i : Nat} {v : AV} (e : (enumA xs)[i]? = some v) : ∃ v0, xs[i]? = some v0 ∧ v = .tup [.int (i : Nat), v0] := by
  unfold enumA at e
  rw [List.getElem?_zipWith] at e
  cases hr : (List.range xs.length)[i]? with
  | none => rw [hr] at e; simp at e
  | some j =>
    cases hx : xs[i]? with
    | none => rw [hr, hx] at e; simp at e
    | some v0 =>
      rw [hr, hx] at e
      have : j = i := by
        have := List.getElem?_range (n := xs.length) (i := i)
        rw [List.getElem?_eq_some_iff] at hr
        obtain ⟨h3, h4⟩ := hr
        simpa using h4.symm
      subst this
      simp at e
      exact ⟨v0, rfl, e.symm⟩
theorem goes_enumT {a : Addr} {xs : List AV} {K : PySem.W.Frag} (hK : K = G.K) (x : RV G c (.tup xs) (.ref a)) : Goes G c (IteT K a) (enumA xs) := by
  subst hK
  have hq : ∃ us, (∀ c', Mv c c' → SqT G.K c'.H a us) ∧ RVs G c xs us := by
    cases x with
    | tup r f y => exact ⟨_, fun c' M => .inl (M.rd r f).1, y⟩
    | tupK k y => exact ⟨_, fun c' M => .inr k, y⟩
  obtain ⟨us, h1, y⟩ := hq
  have hl : (enumA xs).length = us.length := by unfold enumA; simp [y.length]
  refine ⟨fun H => SqT G.K H a us, YPair (fun i => some (.int (i : Nat))) (fun i => us[i]?), by rw [hl]; exact walk_enumT, h1, fun c' i x H'' v M r e q => ?_⟩
  obtain ⟨T, z, w, rfl, hT, rfl, e1, e2⟩ := q
  cases e1
  obtain ⟨v0, e3, rfl⟩ := enum_nth e
  obtain ⟨u, e4, y2⟩ := y.nth e3
  have e2' : us[i]? = some w := e2
  rw [e4] at e2'
  cases e2'
  have N := Nxt.temp (O := .tup [.int (i : Nat), w]) r hT
  exact ⟨N, .tup (.inl upd_same) (r.frz hT) (.cons .int (.cons ((y2.mono M).mono N.mv) .nil))⟩
/-- enumerate over a list or a tuple that nobody changes -/
def mEnumA (ma : MA) : MA := fun τ h => (ma τ h).bind fun vs h => match vs with
  | [.fl xs] => .ok (enumA xs) h
  | [.tup xs] => .ok (enumA xs) h
  | _ => .stuck
theorem ii_enumA {elts : List Expr} {kk : Nat} {tpos : Pos} (hK : X.K = G.K) (hm : X.mg "enumerate" = none) (ha : IA G B W X [e] ma) (hg : Gl X "enumerate" := by rfl) (hs : starEach [e] X.env = [(false, eval e X.env)] := by rfl) :
    II G B W X (.Tuple elts kk tpos) (.Call (.Name "enumerate" p) [e] [] pos) (mEnumA ma) := PI.imp (pi_enumA hg hm ha hs) fun σ H R ⟨c, τ, L, eH, r, s, q⟩ => by
  refine ⟨c, τ, L, eH, r, s, (Post.bind (R := RVs G) q).imp fun u H1 ⟨c1, v, e1, N1, x1, p1⟩ => ?_⟩
  subst e1
  cases x1 with
  | nil => exact p1.elim
  | @cons y ys u1 us1 y1 t1 =>
    cases t1 with
    | cons _ _ => exact (by cases y <;> exact p1.elim)
    | nil =>
      cases y with
      | fl xs =>
        obtain ⟨a, us, rfl, q1, yy⟩ := rv_list hK y1
        exact ⟨a, us, rfl, .inl ⟨q1, p1 c1 _ (.refl N1.rel) rfl (goes_enum hK y1)⟩⟩
      | tup xs =>
        obtain ⟨a, us, rfl, q1, yy⟩ := rv_tup hK y1
        exact ⟨a, us, rfl, .inr ⟨q1, p1 c1 _ (.refl N1.rel) rfl (goes_enumT hK y1)⟩⟩
      | _ => exact p1.elim
end
end PI
/-! tools for the plain laws: loops and comprehensions over things that are told. -/
namespace PI
open PySem PySem.Spec PyProof.Rows L2
theorem seq_run {m n : MS} {τ τ' : AS} {h h' : AH} {r : SRes} (h1 : m τ h = .nx τ' h') (h2 : n τ' h' = r) : sSeq m n τ h = r := by
  unfold sSeq; rw [h1]; exact h2
theorem seq_out {m n : MS} {τ : AS} {h : AH} {r : SRes} (h1 : m τ h = r) (h2 : ∀ τ' h', r ≠ .nx τ' h') : sSeq m n τ h = r := by
  unfold sSeq; rw [h1]
  cases r with
  | nx τ' h' => exact absurd rfl (h2 τ' h')
  | _ => rfl
def enF (i : Nat) : List AV → List AV
  | [] => []
  | v :: r => .tup [.int (i : Nat), v] :: enF (i + 1) r
theorem enF_eq : ∀ (xs : List AV) (i : Nat), (List.range' i xs.length).zipWith (fun i v => AV.tup [.int (i : Nat), v]) xs = enF i xs
  | [], i => by simp [enF]
  | v :: r, i => by
    rw [List.length_cons, List.range'_succ, List.zipWith_cons_cons, enF_eq r (i + 1)]
    rfl
theorem enumA_enF (xs : List AV) : enumA xs = enF 0 xs := by
  unfold enumA
  rw [List.range_eq_range', enF_eq]
theorem forL_cons {g : MG} {b : MS} {v : AV} {r : List AV} {τ τ1 τ2 : AS} {h h2 : AH} (e1 : g v τ = some τ1) (e2 : b τ1 h = .nx τ2 h2) : forL g b (v :: r) τ h = forL g b r τ2 h2 := by
  rw [forL, e1]
  simp only
  rw [e2]
theorem forL_out {g : MG} {b : MS} {v : AV} {r : List AV} {τ τ1 : AS} {h : AH} {q : SRes} (e1 : g v τ = some τ1) (e2 : b τ1 h = q) (hq : (∀ τ h, q ≠ .nx τ h) ∧ (∀ τ h, q ≠ .ct τ h) ∧ (∀ τ h, q ≠ .bk τ h)) : forL g b (v :: r) τ h = q := by
  rw [forL, e1]
  simp only
  rw [e2]
  cases q with
  | nx τ h => exact absurd rfl (hq.1 τ h)
  | ct τ h => exact absurd rfl (hq.2.1 τ h)
  | bk τ h => exact absurd rfl (hq.2.2 τ h)
  | _ => rfl
/-- a comprehension without effect -/
theorem lcL_filter {g : MG} {mt : MT} {me : ME} {τ : AS} {h : AH} (p : AV → Bool) (f : AV → AV) : ∀ (vs acc : List AV), (∀ v, v ∈ vs → ∃ τ2, g v τ = some τ2 ∧ mt τ2 h = .ok (p v) h ∧ (p v = true → me τ2 h = .ok (f v) h)) → acc.length + vs.length ≤ 16777216 →
    lcL g mt me τ vs acc h = .ok (.fl (acc ++ (vs.filter p).map f)) h
  | [], acc, _, _ => by simp [lcL]
  | v :: r, acc, H, hl => by
    obtain ⟨τ2, e1, e2, e3⟩ := H v (by simp)
    rw [lcL, e1]
    simp only [e2, noX, Res.bind]
    have hl' : acc.length + r.length + 1 ≤ 16777216 := by simpa [Nat.add_assoc] using hl
    cases q : p v with
    | true =>
      have hs : small (acc.length + 1) = true := decide_eq_true (by omega)
      simp only [e3 q, if_true, hs]
      rw [lcL_filter p f r _ (fun w hw => H w (by simp [hw])) (by simp; omega)]
      simp [q]
    | false =>
      simp only [Bool.false_eq_true, if_false]
      rw [lcL_filter p f r _ (fun w hw => H w (by simp [hw])) (by omega)]
      simp [q]
theorem lcL_map {g : MG} {me : ME} {τ : AS} {h : AH} (f : AV → AV) (vs : List AV) (H : ∀ v, v ∈ vs → ∃ τ2, g v τ = some τ2 ∧ me τ2 h = .ok (f v) h) (hl : vs.length ≤ 16777216) :
    lcL g mYes me τ vs [] h = .ok (.fl (vs.map f)) h := by
  rw [lcL_filter (fun _ => true) f vs [] (fun v hv => by obtain ⟨τ2, e1, e2⟩ := H v hv; exact ⟨τ2, e1, rfl, fun _ => e2⟩) (by simpa using hl)]
  rw [List.filter_eq_self.mpr (fun _ _ => rfl)]
  simp
/-- what two lists have in common, item by item -/
inductive Al2 {α β : Type} (R : α → β → Prop) : List α → List β → Prop where
  | nil : Al2 R [] []
  | cons {a b as bs} : R a b → Al2 R as bs → Al2 R (a :: as) (b :: bs)
theorem Al2.len {α β : Type} {R : α → β → Prop} {as : List α} {bs : List β} (h : Al2 R as bs) : as.length = bs.length := by
  induction h with
  | nil => rfl
  | cons _ _ ih => simp [ih]
theorem Al2.nth {α β : Type} {R : α → β → Prop} {as : List α} {bs : List β} (h : Al2 R as bs) : ∀ {i : Nat} {b : β}, bs[i]? = some b → ∃ a, as[i]? = some a ∧ R a b := by
  induction h with
  | nil => intro i b e; simp at e
  | @cons x y xs ys r _ ih =>
    intro i b e
    cases i with
    | zero => simp at e; subst e; exact ⟨x, rfl, r⟩
    | succ i => exact ih (by simpa using e)
/-- a comprehension whose items have effects, its list on the heap -/
theorem lcR_inv {g : MG} {me : ME} {τ : AS} {n : Nat} (R : AV → AV → Prop) (I : AH → Prop) (hset : ∀ h xs, I h → I (h.set n (some (.lst xs)))) : ∀ (vs : List AV), (∀ v, v ∈ vs → ∀ h, I h → ∃ τ2 h2 y, g v τ = some τ2 ∧ me τ2 h = .ok y h2 ∧ R v y ∧ I h2 ∧ h2.length = h.length ∧ h2[n]? = h[n]?) →
    ∀ (acc : List AV) (h : AH), h[n]? = some (some (.lst acc)) → I h → acc.length + vs.length ≤ 16777216 →
    ∃ ys h', lcR g mYes me τ n vs h = .ok (.ref n) h' ∧ Al2 R vs ys ∧ h'[n]? = some (some (.lst (acc ++ ys))) ∧ I h' ∧ h'.length = h.length
  | [], H, acc, h, e, i, hl => ⟨[], h, rfl, .nil, by simpa using e, i, rfl⟩
  | v :: r, H, acc, h, e, i, hl => by
    obtain ⟨τ2, h2, y, e1, e2, hr, i2, hlen, hn⟩ := H v (by simp) h i
    have hlt : n < h.length := (List.getElem?_eq_some_iff.mp e).1
    obtain ⟨ys, h', e3, al, e4, i3, hl3⟩ := lcR_inv R I hset r (fun w hw => H w (by simp [hw])) (acc ++ [y]) (h2.set n (some (.lst (acc ++ [y])))) (by rw [List.getElem?_set_self (by omega)]) (hset _ _ i2) (by simp at hl ⊢; omega)
    refine ⟨y :: ys, h', ?_, .cons hr al, by simpa using e4, i3, by rw [hl3]; simp [hlen]⟩
    rw [lcR, e1]
    have hs : small (acc.length + 1) = true := decide_eq_true (by simp at hl; omega)
    simp only [mYes, noX, Res.bind, if_true, e2, hn, e, hs]
    exact e3
end PI
/-! how machines run, step by step: one rewriting a construct; what is not known yet stays folded. -/
namespace PI
open PySem PySem.Spec PyProof.Rows L2
section
variable {α β : Type} {a : α} {h h1 : AH} {x : XC} {fx : List (Nat × AV)} {f : α → AH → Res β} {fS : α → AH → SRes} {τ : AS}
@[simp] theorem bind_ok : (Res.ok a h).bind f = f a h := rfl
@[simp] theorem bind_exc : (Res.exc x fx h : Res α).bind f = .exc x fx h := rfl
@[simp] theorem bind_stuck : (Res.stuck : Res α).bind f = .stuck := rfl
@[simp] theorem bindS_ok : (Res.ok a h).bindS τ fS = fS a h := rfl
@[simp] theorem bindS_exc : (Res.exc x fx h : Res α).bindS τ fS = .exc x fx τ h := rfl
@[simp] theorem bindS_stuck : (Res.stuck : Res α).bindS τ fS = .stuck := rfl
@[simp] theorem of_some : (Res.of (some (a, h)) : Res α) = .ok a h := rfl
@[simp] theorem of_none : (Res.of none : Res α) = .stuck := rfl
end
/-! statements -/
def SRes.thn (r : SRes) (n : MS) : SRes := match r with
  | .nx τ h => n τ h
  | r => r
@[simp] theorem thn_nx {τ : AS} {h : AH} {n : MS} : (SRes.nx τ h).thn n = n τ h := rfl
@[simp] theorem thn_rt {v : AV} {h : AH} {n : MS} : (SRes.rt v h).thn n = .rt v h := rfl
@[simp] theorem thn_bk {τ : AS} {h : AH} {n : MS} : (SRes.bk τ h).thn n = .bk τ h := rfl
@[simp] theorem thn_ct {τ : AS} {h : AH} {n : MS} : (SRes.ct τ h).thn n = .ct τ h := rfl
@[simp] theorem thn_exc {x : XC} {fx : List (Nat × AV)} {τ : AS} {h : AH} {n : MS} : (SRes.exc x fx τ h).thn n = .exc x fx τ h := rfl
@[simp] theorem thn_stuck {n : MS} : (SRes.stuck).thn n = .stuck := rfl
section
variable {m n : MS} {e e2 e3 : ME} {ea : MA} {et et2 : MT} {g : MG} {τ : AS} {h : AH} {i : Nat} {v w u : AV} {vs ws : List AV} {b : Bool} {k : AV → AV → AH → Option (AV × AH)} {k1 : AV → AH → Option (AV × AH)} {kl : List AV → AH → Option (AV × AH)}
@[simp] theorem sSeq_ev : sSeq m n τ h = (m τ h).thn n := rfl
@[simp] theorem sSkip_ev : sSkip τ h = .nx τ h := rfl
@[simp] theorem sBrk_ev : sBrk τ h = .bk τ h := rfl
@[simp] theorem sCont_ev : sCont τ h = .ct τ h := rfl
@[simp] theorem sRetN_ev : sRetN τ h = .rt .non h := rfl
def fSet (i : Nat) (τ : AS) : AV → AH → SRes := fun v h => if i < τ.length then .nx (τ.set i (some v)) h else .stuck
@[simp] theorem sSet_ev : sSet i e τ h = (e τ h).bindS τ (fSet i τ) := rfl
@[simp] theorem fSet_ev : fSet i τ v h = if i < τ.length then .nx (τ.set i (some v)) h else .stuck := rfl
def fExpr (τ : AS) : AV → AH → SRes := fun _ h => .nx τ h
@[simp] theorem sExpr_ev : sExpr e τ h = (e τ h).bindS τ (fExpr τ) := rfl
@[simp] theorem fExpr_ev : fExpr τ v h = .nx τ h := rfl
def fRet : AV → AH → SRes := fun v h => .rt v h
@[simp] theorem sRet_ev : sRet e τ h = (e τ h).bindS τ fRet := rfl
@[simp] theorem fRet_ev : fRet v h = .rt v h := rfl
def fIf (m n : MS) (τ : AS) : Bool → AH → SRes := fun b h => if b then m τ h else n τ h
@[simp] theorem sIf_ev : sIf et m n τ h = (et τ h).bindS τ (fIf m n τ) := rfl
@[simp] theorem fIf_t : fIf m n τ true h = m τ h := rfl
@[simp] theorem fIf_f : fIf m n τ false h = n τ h := rfl
def fFor (g : MG) (m : MS) (τ : AS) : List AV → AH → SRes := fun vs h => forL g m vs τ h
@[simp] theorem sFor_ev : sFor g ea m τ h = (ea τ h).bindS τ (fFor g m τ) := rfl
@[simp] theorem fFor_ev : fFor g m τ vs h = forL g m vs τ h := rfl
def fAsg (g : MG) (τ : AS) : AV → AH → SRes := fun v h => match g v τ with
  | some τ' => .nx τ' h
  | none => .stuck
@[simp] theorem sAsg_ev : sAsg g e τ h = (e τ h).bindS τ (fAsg g τ) := rfl
@[simp] theorem fAsg_ev : fAsg g τ v h = match g v τ with | some τ' => .nx τ' h | none => .stuck := rfl
def fRaise (τ : AS) : XC × List (Nat × AV) → AH → SRes := fun q h => .exc q.1 q.2 τ h
@[simp] theorem sRaise_ev {mx : MX} : sRaise mx τ h = (mx τ h).bindS τ (fRaise τ) := rfl
@[simp] theorem fRaise_ev {q : XC × List (Nat × AV)} : fRaise τ q h = .exc q.1 q.2 τ h := rfl
def fExc (x : XC) (fs : List Nat) : List AV → AH → Res (XC × List (Nat × AV)) := fun vs h => if vs.length = fs.length then .ok (x, (fs.zip vs).reverse) h else .stuck
@[simp] theorem mExc_ev {x : XC} {fs : List Nat} : mExc x fs ea τ h = (ea τ h).bind (fExc x fs) := rfl
@[simp] theorem fExc_ev {x : XC} {fs : List Nat} : fExc x fs vs h = if vs.length = fs.length then .ok (x, (fs.zip vs).reverse) h else .stuck := rfl
def SRes.ctch (r : SRes) (mt : XC → Option Bool) (i : Nat) (su : MS) : SRes := match r with
  | .exc x fs τ' h' => match mt x with
    | some true => if noE τ' ∧ i < τ'.length then suiteEnd i (su (τ'.set i (some (.mE x fs))) h') else .stuck
    | some false => .exc x fs τ' h'
    | none => .stuck
  | r => r
@[simp] theorem sTryAs_ev {mt : XC → Option Bool} : sTryAs m mt i n τ h = (m τ h).ctch mt i n := rfl
@[simp] theorem ctch_nx {mt : XC → Option Bool} : (SRes.nx τ h).ctch mt i n = .nx τ h := rfl
@[simp] theorem ctch_rt {mt : XC → Option Bool} : (SRes.rt v h).ctch mt i n = .rt v h := rfl
@[simp] theorem ctch_bk {mt : XC → Option Bool} : (SRes.bk τ h).ctch mt i n = .bk τ h := rfl
@[simp] theorem ctch_ct {mt : XC → Option Bool} : (SRes.ct τ h).ctch mt i n = .ct τ h := rfl
@[simp] theorem ctch_exc {mt : XC → Option Bool} {x : XC} {fs : List (Nat × AV)} : (SRes.exc x fs τ h).ctch mt i n = match mt x with
    | some true => if noE τ ∧ i < τ.length then suiteEnd i (n (τ.set i (some (.mE x fs))) h) else .stuck
    | some false => .exc x fs τ h
    | none => .stuck := rfl
def SRes.ctch0 (r : SRes) (mt : XC → Option Bool) (su : MS) : SRes := match r with
  | .exc x fs τ' h' => match mt x with
    | some true => suiteEnd0 (su τ' h')
    | some false => .exc x fs τ' h'
    | none => .stuck
  | r => r
@[simp] theorem sTry_ev {mt : XC → Option Bool} : sTry m mt n τ h = (m τ h).ctch0 mt n := rfl
@[simp] theorem ctch0_nx {mt : XC → Option Bool} : (SRes.nx τ h).ctch0 mt n = .nx τ h := rfl
@[simp] theorem ctch0_rt {mt : XC → Option Bool} : (SRes.rt v h).ctch0 mt n = .rt v h := rfl
@[simp] theorem ctch0_bk {mt : XC → Option Bool} : (SRes.bk τ h).ctch0 mt n = .bk τ h := rfl
@[simp] theorem ctch0_ct {mt : XC → Option Bool} : (SRes.ct τ h).ctch0 mt n = .ct τ h := rfl
@[simp] theorem ctch0_exc {mt : XC → Option Bool} {x : XC} {fs : List (Nat × AV)} : (SRes.exc x fs τ h).ctch0 mt n = match mt x with
    | some true => suiteEnd0 (n τ h)
    | some false => .exc x fs τ h
    | none => .stuck := rfl
@[simp] theorem suiteEnd_nx : suiteEnd i (.nx τ h) = if noE (τ.set i none) then .nx (τ.set i none) h else .stuck := rfl
@[simp] theorem suiteEnd_rt : suiteEnd i (.rt v h) = .rt v h := rfl
@[simp] theorem suiteEnd0_nx : suiteEnd0 (.nx τ h) = .nx τ h := rfl
@[simp] theorem suiteEnd0_rt : suiteEnd0 (.rt v h) = .rt v h := rfl
@[simp] theorem noE_cons_none : noE (none :: τ) = noE τ := by simp [noE]
@[simp] theorem noE_nil' : noE [] = true := rfl
def notE : AV → Bool
  | .mE _ _ => false
  | _ => true
@[simp] theorem noE_cons_some : noE (some v :: τ) = (notE v && noE τ) := by cases v <;> simp [noE, notE]
@[simp] theorem notE_non : notE .non = true := rfl
@[simp] theorem notE_bl : notE (.bl b) = true := rfl
@[simp] theorem notE_int {i : Int} : notE (.int i) = true := rfl
@[simp] theorem notE_str {i : Str} : notE (.str i) = true := rfl
@[simp] theorem notE_tup {i : List AV} : notE (.tup i) = true := rfl
@[simp] theorem notE_fl {i : List AV} : notE (.fl i) = true := rfl
@[simp] theorem notE_fd {i : List (Key × AV)} : notE (.fd i) = true := rfl
@[simp] theorem notE_ref {i : Nat} : notE (.ref i) = true := rfl
@[simp] theorem notE_obj {i : Nat} {fs : List (Nat × AV)} : notE (.obj i fs) = true := rfl
@[simp] theorem notE_mI {i : Nat} {fs : List (Nat × AV)} : notE (.mI i fs) = true := rfl
@[simp] theorem notE_mL {i : List AV} : notE (.mL i) = true := rfl
theorem notE_knd (hp : plainV v = true) : notE v = true := by cases v <;> first | rfl | (simp [plainV] at hp)
def fPar (i j : Nat) (τ : AS) : List AV → AH → SRes := fun vs h => match vs with
  | [v, w] => if i < τ.length ∧ j < τ.length then .nx ((τ.set i (some v)).set j (some w)) h else .stuck
  | _ => .stuck
@[simp] theorem sPar_ev {i j : Nat} : sPar i j ea τ h = (ea τ h).bindS τ (fPar i j τ) := rfl
@[simp] theorem fPar_ev {i j : Nat} : fPar i j τ [v, w] h = if i < τ.length ∧ j < τ.length then .nx ((τ.set i (some v)).set j (some w)) h else .stuck := rfl
def fPar3 (i j l : Nat) (τ : AS) : List AV → AH → SRes := fun vs h => match vs with
  | [v, w, z] => if i < τ.length ∧ j < τ.length ∧ l < τ.length then .nx (((τ.set i (some v)).set j (some w)).set l (some z)) h else .stuck
  | _ => .stuck
@[simp] theorem sPar3_ev {i j l : Nat} : sPar3 i j l ea τ h = (ea τ h).bindS τ (fPar3 i j l τ) := rfl
@[simp] theorem fPar3_ev {i j l : Nat} : fPar3 i j l τ [v, w, u] h = if i < τ.length ∧ j < τ.length ∧ l < τ.length then .nx (((τ.set i (some v)).set j (some w)).set l (some u)) h else .stuck := rfl
def fSetIx2 (v w : AV) (τ : AS) : AV → AH → SRes := fun k h => match w, k with
  | .ref n, .int j => match h[n]? with
    | some (some (.lst xs)) => match ixN xs.length j with
      | some q => .nx τ (h.set n (some (.lst (xs.set q v))))
      | none => .stuck
    | _ => .stuck
  | _, _ => .stuck
def fSetIx1 (mi : ME) (v : AV) (τ : AS) : AV → AH → SRes := fun w h => (mi τ h).bindS τ (fSetIx2 v w τ)
def fSetIx (mo mi : ME) (τ : AS) : AV → AH → SRes := fun v h => (mo τ h).bindS τ (fSetIx1 mi v τ)
@[simp] theorem sSetIx_ev : sSetIx e e2 e3 τ h = (e3 τ h).bindS τ (fSetIx e e2 τ) := rfl
@[simp] theorem fSetIx_ev : fSetIx e e2 τ v h = (e τ h).bindS τ (fSetIx1 e2 v τ) := rfl
@[simp] theorem fSetIx1_ev : fSetIx1 e2 v τ w h = (e2 τ h).bindS τ (fSetIx2 v w τ) := rfl
@[simp] theorem fSetIx2_ev {n : Nat} {j : Int} : fSetIx2 v (.ref n) τ (.int j) h = match h[n]? with
    | some (some (.lst xs)) => match ixN xs.length j with
      | some q => .nx τ (h.set n (some (.lst (xs.set q v))))
      | none => .stuck
    | _ => .stuck := rfl
def fFldSet1 (ks : List Nat) (f : Nat) (v : AV) (τ : AS) : AV → AH → SRes := fun w h => match w with
  | .ref n => match h[n]? with
    | some (some (.ins k fs)) => if ks.contains k && few fs then .nx τ (h.set n (some (.ins k (aput f v fs)))) else .stuck
    | _ => .stuck
  | _ => .stuck
def fFldSet (ks : List Nat) (f : Nat) (o : ME) (τ : AS) : AV → AH → SRes := fun v h => (o τ h).bindS τ (fFldSet1 ks f v τ)
@[simp] theorem sFldSet_ev {ks : List Nat} {f : Nat} : sFldSet ks f e e2 τ h = (e2 τ h).bindS τ (fFldSet ks f e τ) := rfl
@[simp] theorem fFldSet_ev {ks : List Nat} {f : Nat} : fFldSet ks f e τ v h = (e τ h).bindS τ (fFldSet1 ks f v τ) := rfl
@[simp] theorem fFldSet1_ev {ks : List Nat} {f n : Nat} : fFldSet1 ks f v τ (.ref n) h = match h[n]? with
    | some (some (.ins k fs)) => if ks.contains k && few fs then .nx τ (h.set n (some (.ins k (aput f v fs)))) else .stuck
    | _ => .stuck := rfl
def fOwnF (ks : List Nat) (f : Nat) (τ : AS) : AV → AH → SRes := fun v h => match τ with
  | some (.mI k fs) :: r => if ks.contains k && few fs then .nx (some (.mI k (aput f v fs)) :: r) h else .stuck
  | _ => .stuck
@[simp] theorem sOwnF_ev {ks : List Nat} {f : Nat} : sOwnF ks f e τ h = (e τ h).bindS τ (fOwnF ks f τ) := rfl
@[simp] theorem fOwnF_ev {ks : List Nat} {f k : Nat} {fs : List (Nat × AV)} : fOwnF ks f (some (.mI k fs) :: τ) v h = if ks.contains k && few fs then .nx (some (.mI k (aput f v fs)) :: τ) h else .stuck := rfl
@[simp] theorem mOwnF_ev {ks : List Nat} {f k : Nat} {fs : List (Nat × AV)} : mOwnF ks f (some (.mI k fs) :: τ) h = if ks.contains k then (match fs.lookup f with | some v => if plainV v then .ok v h else .stuck | none => .stuck) else .stuck := rfl
@[simp] theorem gOwnF_ev {ks : List Nat} {f k : Nat} {fs : List (Nat × AV)} : gOwnF ks f v (some (.mI k fs) :: τ) = if ks.contains k && few fs then some (some (.mI k (aput f v fs)) :: τ) else none := rfl
@[simp] theorem aput_nil {f : Nat} : aput f v [] = [(f, v)] := rfl
@[simp] theorem aput_cons {f j : Nat} {fs : List (Nat × AV)} : aput f v ((j, w) :: fs) = if j = f then (j, v) :: fs else (j, w) :: aput f v fs := rfl
@[simp] theorem few_nil : few [] = true := by decide
theorem few_of {fs : List (Nat × AV)} (hf : fs.length ≤ 900) : few fs = true := decide_eq_true hf
@[simp] theorem few_cons {f : Nat × AV} {fs : List (Nat × AV)} : few (f :: fs) = decide (fs.length + 1 ≤ 900) := rfl
/-! targets -/
@[simp] theorem gN_ev : gN i v τ = if i < τ.length then some (τ.set i (some v)) else none := rfl
@[simp] theorem gsNil_ev : gsNil [] τ = some τ := rfl
@[simp] theorem gsCons_ev {gs : List AV → AS → Option AS} : gsCons g gs (v :: vs) τ = (g v τ).bind fun τ' => gs vs τ' := rfl
@[simp] theorem gT_tup {gs : List AV → AS → Option AS} : gT i gs (.tup vs) τ = if vs.length = i then gs vs τ else none := rfl
@[simp] theorem gT_fl {gs : List AV → AS → Option AS} : gT i gs (.fl vs) τ = if vs.length = i then gs vs τ else none := rfl
@[simp] theorem gE_ev : gE i v τ = match τ[i]? with | some none => some (τ.set i (some v)) | _ => none := rfl
/-! expressions -/
@[simp] theorem mVar_ev : mVar i τ h = match τ[i]? with | some (some v) => if plainV v then .ok v h else .stuck | _ => .stuck := rfl
@[simp] theorem mC_ev : mC v τ h = .ok v h := rfl
def fUn (k : AV → AH → Option (AV × AH)) : AV → AH → Res AV := fun v h => .of (k v h)
@[simp] theorem mUn_ev : mUn k1 e τ h = (e τ h).bind (fUn k1) := rfl
@[simp] theorem fUn_ev : fUn k1 v h = .of (k1 v h) := rfl
def fBin2 (k : AV → AV → AH → Option (AV × AH)) (v : AV) : AV → AH → Res AV := fun w h => .of (k v w h)
def fBin (k : AV → AV → AH → Option (AV × AH)) (n : ME) (τ : AS) : AV → AH → Res AV := fun v h => (n τ h).bind (fBin2 k v)
@[simp] theorem mBin_ev : mBin k e e2 τ h = (e τ h).bind (fBin k e2 τ) := rfl
@[simp] theorem fBin_ev : fBin k e2 τ v h = (e2 τ h).bind (fBin2 k v) := rfl
@[simp] theorem fBin2_ev : fBin2 k v w h = .of (k v w h) := rfl
@[simp] theorem mNil_ev : mNil τ h = .ok [] h := rfl
def fCons2 (v : AV) : List AV → AH → Res (List AV) := fun vs h => .ok (v :: vs) h
def fCons (r : MA) (τ : AS) : AV → AH → Res (List AV) := fun v h => (r τ h).bind (fCons2 v)
@[simp] theorem mCons_ev : mCons e ea τ h = (e τ h).bind (fCons ea τ) := rfl
@[simp] theorem fCons_ev : fCons ea τ v h = (ea τ h).bind (fCons2 v) := rfl
@[simp] theorem fCons2_ev : fCons2 v vs h = .ok (v :: vs) h := rfl
def fL (k : List AV → AH → Option (AV × AH)) : List AV → AH → Res AV := fun vs h => .of (k vs h)
@[simp] theorem mL_ev : mL kl ea τ h = (ea τ h).bind (fL kl) := rfl
@[simp] theorem fL_ev : fL kl vs h = .of (kl vs h) := rfl
def fB : AV → AH → Res Bool := fun v h => .of ((boolOf v).map fun b => (b, h))
@[simp] theorem mB_ev : mB e τ h = (e τ h).bind fB := rfl
@[simp] theorem fB_ev : fB (.bl b) h = .ok b h := rfl
def fAnd (n : MT) (τ : AS) : Bool → AH → Res Bool := fun b h => if b then n τ h else .ok false h
@[simp] theorem mTAnd_ev : mTAnd et et2 τ h = (et τ h).bind (fAnd et2 τ) := rfl
@[simp] theorem fAnd_t : fAnd et τ true h = et τ h := rfl
@[simp] theorem fAnd_f : fAnd et τ false h = .ok false h := rfl
def fOr (n : MT) (τ : AS) : Bool → AH → Res Bool := fun b h => if b then .ok true h else n τ h
@[simp] theorem mTOr_ev : mTOr et et2 τ h = (et τ h).bind (fOr et2 τ) := rfl
@[simp] theorem fOr_t : fOr et τ true h = .ok true h := rfl
@[simp] theorem fOr_f : fOr et τ false h = et τ h := rfl
def fNot : Bool → AH → Res Bool := fun b h => .ok (!b) h
@[simp] theorem mTNot_ev : mTNot et τ h = (et τ h).bind fNot := rfl
@[simp] theorem fNot_ev : fNot b h = .ok (!b) h := rfl
def fIfE (m n : ME) (τ : AS) : Bool → AH → Res AV := fun b h => if b then m τ h else n τ h
@[simp] theorem mIf_ev : mIf et e e2 τ h = (et τ h).bind (fIfE e e2 τ) := rfl
@[simp] theorem fIfE_t : fIfE e e2 τ true h = e τ h := rfl
@[simp] theorem fIfE_f : fIfE e e2 τ false h = e2 τ h := rfl
def fAndV (n : ME) (τ : AS) : AV → AH → Res AV := fun v h => match v with
  | .bl true => n τ h
  | .bl false => .ok (.bl false) h
  | _ => .stuck
@[simp] theorem mAndV_ev : mAndV e e2 τ h = (e τ h).bind (fAndV e2 τ) := rfl
@[simp] theorem fAndV_t : fAndV e τ (.bl true) h = e τ h := rfl
@[simp] theorem fAndV_f : fAndV e τ (.bl false) h = .ok (.bl false) h := rfl
def fOrV (n : ME) (τ : AS) : AV → AH → Res AV := fun v h => match v with
  | .bl true => .ok (.bl true) h
  | .bl false => n τ h
  | _ => .stuck
@[simp] theorem mOrV_ev : mOrV e e2 τ h = (e τ h).bind (fOrV e2 τ) := rfl
@[simp] theorem fOrV_t : fOrV e τ (.bl true) h = .ok (.bl true) h := rfl
@[simp] theorem fOrV_f : fOrV e τ (.bl false) h = e τ h := rfl
def fNotV : AV → AH → Res AV := fun v h => match v with
  | .bl b => .ok (.bl (!b)) h
  | _ => .stuck
@[simp] theorem mNotV_ev : mNotV e τ h = (e τ h).bind fNotV := rfl
@[simp] theorem fNotV_ev : fNotV (.bl b) h = .ok (.bl (!b)) h := rfl
@[simp] theorem mCall_ev {f : FN} : mCall f ea τ h = (ea τ h).bind f := rfl
@[simp] theorem chk_ev {N : Nat} {f : FN} : chk N f vs h = if vs.length = N then f vs h else .stuck := rfl
@[simp] theorem chkI_ev {N : Nat} {f : FI} : chkI N f vs h = if vs.length + 1 = N then f vs h else .stuck := rfl
def SRes.fin (r : SRes) : Res AV := match r with
  | .nx _ h' => .ok .non h'
  | .rt v h' => .ok v h'
  | .exc x fs _ h' => .exc x fs h'
  | _ => .stuck
@[simp] theorem fin_nx : (SRes.nx τ h).fin = .ok .non h := rfl
@[simp] theorem fin_rt : (SRes.rt v h).fin = .ok v h := rfl
@[simp] theorem fin_exc {x : XC} {fs : List (Nat × AV)} : (SRes.exc x fs τ h).fin = .exc x fs h := rfl
@[simp] theorem runF_ev {N : Nat} : runF N m vs h = (m (vs.map some ++ List.replicate (N - vs.length) none) h).fin := rfl
def SRes.finI (k : Nat) (r : SRes) : Res (List (Nat × AV)) := match r with
  | .nx τ h' => match τ with
    | some (.mI k' fs) :: _ => if k' = k then .ok fs h' else .stuck
    | _ => .stuck
  | .exc x fs _ h' => .exc x fs h'
  | _ => .stuck
@[simp] theorem finI_nx {k k' : Nat} {fs : List (Nat × AV)} : (SRes.nx (some (.mI k' fs) :: τ) h).finI k = if k' = k then .ok fs h else .stuck := rfl
@[simp] theorem finI_exc {k : Nat} {x : XC} {fs : List (Nat × AV)} : (SRes.exc x fs τ h).finI k = .exc x fs h := rfl
@[simp] theorem runI_ev {N k : Nat} : runI N k m vs h = (m (some (.mI k []) :: vs.map some ++ List.replicate (N - (vs.length + 1)) none) h).finI k := rfl
def fMk2 (k : Nat) : List (Nat × AV) → AH → Res AV := fun fs h => .ok (.obj k fs) h
def fMk (k : Nat) (f : FI) : List AV → AH → Res AV := fun vs h => (f vs h).bind (fMk2 k)
@[simp] theorem mMk_ev {k : Nat} {f : FI} : mMk k f ea τ h = (ea τ h).bind (fMk k f) := rfl
@[simp] theorem fMk_ev {k : Nat} {f : FI} : fMk k f vs h = (f vs h).bind (fMk2 k) := rfl
@[simp] theorem fMk2_ev {k : Nat} {fs : List (Nat × AV)} : fMk2 k fs h = .ok (.obj k fs) h := rfl
def fMkK2 (k n m : Nat) (f : FI) (pk : List Nat) (vs : List AV) : List AV → AH → Res AV := fun zs h => if vs.length = n ∧ zs.length = m then (f (vs ++ pickL pk zs) h).bind (fMk2 k) else .stuck
def fMkK (k n m : Nat) (f : FI) (pk : List Nat) (mk : MA) (τ : AS) : List AV → AH → Res AV := fun vs h => (mk τ h).bind (fMkK2 k n m f pk vs)
@[simp] theorem mMkK_ev {k n m : Nat} {f : FI} {pk : List Nat} {ma mk : MA} : mMkK k n m f pk ma mk τ h = (ma τ h).bind (fMkK k n m f pk mk τ) := rfl
@[simp] theorem fMkK_ev {k n m : Nat} {f : FI} {pk : List Nat} {mk : MA} : fMkK k n m f pk mk τ vs h = (mk τ h).bind (fMkK2 k n m f pk vs) := rfl
@[simp] theorem fMkK2_ev {k n m : Nat} {f : FI} {pk : List Nat} : fMkK2 k n m f pk vs ws h = if vs.length = n ∧ ws.length = m then (f (vs ++ pickL pk ws) h).bind (fMk2 k) else .stuck := rfl
def Res.made (n : Nat) (r : Res AV) : Res AV := match r with
  | .ok .non h' => .ok (.ref n) h'
  | .exc x fs h' => .exc x fs h'
  | _ => .stuck
@[simp] theorem made_ok {n : Nat} : (Res.ok .non h).made n = .ok (.ref n) h := rfl
@[simp] theorem made_exc {n : Nat} {x : XC} {fs : List (Nat × AV)} : (Res.exc x fs h).made n = .exc x fs h := rfl
def fMkR (k : Nat) (f : FN) : List AV → AH → Res AV := fun vs h => (f (.ref h.length :: vs) (h ++ [some (.ins k [])])).made h.length
@[simp] theorem mMkR_ev {k : Nat} {f : FN} : mMkR k f ea τ h = (ea τ h).bind (fMkR k f) := rfl
@[simp] theorem fMkR_ev {k : Nat} {f : FN} : fMkR k f vs h = (f (.ref h.length :: vs) (h ++ [some (.ins k [])])).made h.length := rfl
def fMet2 (f : FN) (v : AV) : List AV → AH → Res AV := fun vs h => f (v :: vs) h
def fMet (k m : Nat) (f : FN) (ma : MA) (τ : AS) : AV → AH → Res AV := fun v h => match fldsOf v h with
  | some (k', fs) => if k' = k ∧ (fs.lookup m).isNone then (ma τ h).bind (fMet2 f v) else .stuck
  | none => .stuck
@[simp] theorem mMet_ev {k m : Nat} {f : FN} : mMet k m f e ea τ h = (e τ h).bind (fMet k m f ea τ) := rfl
@[simp] theorem fMet_ev {k m : Nat} {f : FN} : fMet k m f ea τ v h = match fldsOf v h with
  | some (k', fs) => if k' = k ∧ (fs.lookup m).isNone then (ea τ h).bind (fMet2 f v) else .stuck
  | none => .stuck := rfl
@[simp] theorem fMet2_ev {f : FN} : fMet2 f v vs h = f (v :: vs) h := rfl
@[simp] theorem fldsOf_obj {k : Nat} {fs : List (Nat × AV)} : fldsOf (.obj k fs) h = some (k, fs) := rfl
@[simp] theorem fldsOf_ref {n : Nat} : fldsOf (.ref n) h = match h[n]? with | some (some (.ins k fs)) => some (k, fs) | _ => none := rfl
def fFld (ks : List Nat) (f : Nat) : AV → AH → Res AV := fun v h => match fldsOf v h with
  | some (k, fs) => if ks.contains k then (match fs.lookup f with | some w => .ok w h | none => .stuck) else .stuck
  | none => .stuck
@[simp] theorem mFld_ev {ks : List Nat} {f : Nat} : mFld ks f e τ h = (e τ h).bind (fFld ks f) := rfl
@[simp] theorem fFld_ev {ks : List Nat} {f : Nat} : fFld ks f v h = match fldsOf v h with
  | some (k, fs) => if ks.contains k then (match fs.lookup f with | some w => .ok w h | none => .stuck) else .stuck
  | none => .stuck := rfl
def fCallI2 (kc : Nat) (f : FN) (v : AV) : List AV → AH → Res AV := fun vs h => match fldsOf v h with
    | some (k2, _) => if k2 = kc then f (v :: vs) h else .stuck
    | none => .stuck
def fCallI (kc : Nat) (f : FN) (ma : MA) (τ : AS) : AV → AH → Res AV := fun v h => match fldsOf v h with
  | some (k', _) => if k' = kc then (ma τ h).bind (fCallI2 kc f v) else .stuck
  | none => .stuck
@[simp] theorem mCallI_ev {kc : Nat} {f : FN} : mCallI kc f e ea τ h = (e τ h).bind (fCallI kc f ea τ) := rfl
@[simp] theorem fCallI_ev {kc : Nat} {f : FN} : fCallI kc f ea τ v h = match fldsOf v h with
  | some (k', _) => if k' = kc then (ea τ h).bind (fCallI2 kc f v) else .stuck
  | none => .stuck := rfl
@[simp] theorem fCallI2_ev {kc : Nat} {f : FN} : fCallI2 kc f v vs h = match fldsOf v h with
    | some (k2, _) => if k2 = kc then f (v :: vs) h else .stuck
    | none => .stuck := rfl
def fKill : AV → AH → Res AV := fun v h => killA v h
@[simp] theorem mKill_ev : mKill e τ h = (e τ h).bind killA := rfl
@[simp] theorem killA_ref {n : Nat} : killA (.ref n) h = match h[n]? with
    | some (some (.lst xs)) => .ok (.fl xs) (h.set n none)
    | some (some (.dk xs)) => .ok (.fd xs) (h.set n none)
    | some (some (.ins k fs)) => .ok (.obj k fs) (h.set n none)
    | _ => .stuck := rfl
@[simp] theorem killA_non : killA .non h = .ok .non h := rfl
@[simp] theorem killA_bl : killA (.bl b) h = .ok (.bl b) h := rfl
@[simp] theorem killA_int {i : Int} : killA (.int i) h = .ok (.int i) h := rfl
@[simp] theorem killA_str {i : Str} : killA (.str i) h = .ok (.str i) h := rfl
@[simp] theorem killA_fl {i : List AV} : killA (.fl i) h = .ok (.fl i) h := rfl
@[simp] theorem killA_tup {i : List AV} : killA (.tup i) h = .ok (.tup i) h := rfl
def fMt (k : AV → AH → Option (List AV)) : AV → AH → Res (List AV) := fun v h => match k v h with
  | some vs => .ok vs h
  | none => .stuck
@[simp] theorem mIt_ev {k : AV → AH → Option (List AV)} : mIt k e τ h = (e τ h).bind (fMt k) := rfl
@[simp] theorem fMt_ev {k : AV → AH → Option (List AV)} : fMt k v h = match k v h with | some vs => .ok vs h | none => .stuck := rfl
@[simp] theorem itL_fl : itL (.fl vs) h = some vs := rfl
@[simp] theorem itT_tup : itT (.tup vs) h = some vs := rfl
@[simp] theorem itS_str {z : Str} : itS (.str z) h = some (z.cps.toList.map fun k => .str ⟨#[k]⟩) := rfl
def fEnumA : List AV → AH → Res (List AV) := fun vs h => match vs with
  | [.fl xs] => .ok (enumA xs) h
  | [.tup xs] => .ok (enumA xs) h
  | _ => .stuck
@[simp] theorem mEnumA_ev : mEnumA ea τ h = (ea τ h).bind fEnumA := rfl
@[simp] theorem fEnumA_fl : fEnumA [.fl vs] h = .ok (enumA vs) h := rfl
@[simp] theorem fEnumA_tup : fEnumA [.tup vs] h = .ok (enumA vs) h := rfl
def fRng1 : List AV → AH → Res (List AV) := fun vs h => match vs with
  | [.int j] => if rOk j then .ok (rngA 0 j) h else .stuck
  | _ => .stuck
@[simp] theorem mRng1_ev : mRng1 ea τ h = (ea τ h).bind fRng1 := rfl
@[simp] theorem fRng1_ev {j : Int} : fRng1 [.int j] h = if rOk j then .ok (rngA 0 j) h else .stuck := rfl
def fRng2 : List AV → AH → Res (List AV) := fun vs h => match vs with
  | [.int i, .int j] => if rOk i && rOk j then .ok (rngA i j) h else .stuck
  | _ => .stuck
@[simp] theorem mRng2_ev : mRng2 ea τ h = (ea τ h).bind fRng2 := rfl
@[simp] theorem fRng2_ev {i j : Int} : fRng2 [.int i, .int j] h = if rOk i && rOk j then .ok (rngA i j) h else .stuck := rfl
def fCval (k : Nat) (v : AV) : AV → AH → Res AV := fun w h => match w with
  | .cls k' => if k' = k then .ok v h else .stuck
  | _ => .stuck
@[simp] theorem mCval_ev {k : Nat} : mCval k v e τ h = (e τ h).bind (fCval k v) := rfl
@[simp] theorem fCval_ev {k k' : Nat} : fCval k v (.cls k') h = if k' = k then .ok v h else .stuck := rfl
@[simp] theorem mExF_ev {ks : List Nat} {f : Nat} : mExF ks i f τ h = match τ[i]? with
  | some (some (.mE (.own k) fs)) => if ks.contains k then (match fs.lookup f with | some v => if plainV v then .ok v h else .stuck | none => .stuck) else .stuck
  | _ => .stuck := rfl
def fM1b (k : Str → AV → AH → Option (AV × AH)) (a : Str) : AV → AH → Res AV := fun w h => .of (k a w h)
def fM1 (k : Str → AV → AH → Option (AV × AH)) (me : ME) (τ : AS) : AV → AH → Res AV := fun v h => match v with
  | .str a => (me τ h).bind (fM1b k a)
  | _ => .stuck
@[simp] theorem mM1_ev {k : Str → AV → AH → Option (AV × AH)} : mM1 k e e2 τ h = (e τ h).bind (fM1 k e2 τ) := rfl
@[simp] theorem fM1_ev {k : Str → AV → AH → Option (AV × AH)} {a : Str} : fM1 k e2 τ (.str a) h = (e2 τ h).bind (fM1b k a) := rfl
@[simp] theorem fM1b_ev {k : Str → AV → AH → Option (AV × AH)} {a : Str} : fM1b k a v h = .of (k a v h) := rfl
def fM0 (k : Str → AH → Option (AV × AH)) : AV → AH → Res AV := fun v h => match v with
  | .str a => .of (k a h)
  | _ => .stuck
@[simp] theorem mM0_ev {k : Str → AH → Option (AV × AH)} : mM0 k e τ h = (e τ h).bind (fM0 k) := rfl
@[simp] theorem fM0_ev {k : Str → AH → Option (AV × AH)} {a : Str} : fM0 k (.str a) h = .of (k a h) := rfl
def fBMl2 (k : Nat → List AV → AH → Option (AV × AH)) (n : Nat) : List AV → AH → Res AV := fun vs h => .of (k n vs h)
def fBMl (k : Nat → List AV → AH → Option (AV × AH)) (ma : MA) (τ : AS) : AV → AH → Res AV := fun v h => match v with
  | .ref n => match h[n]? with
    | some (some (.lst _)) => (ma τ h).bind (fBMl2 k n)
    | _ => .stuck
  | _ => .stuck
@[simp] theorem mBMl_ev {k : Nat → List AV → AH → Option (AV × AH)} : mBMl k e ea τ h = (e τ h).bind (fBMl k ea τ) := rfl
@[simp] theorem fBMl_ev {k : Nat → List AV → AH → Option (AV × AH)} {n : Nat} : fBMl k ea τ (.ref n) h = match h[n]? with
    | some (some (.lst _)) => (ea τ h).bind (fBMl2 k n)
    | _ => .stuck := rfl
@[simp] theorem fBMl2_ev {k : Nat → List AV → AH → Option (AV × AH)} {n : Nat} : fBMl2 k n vs h = .of (k n vs h) := rfl
def fLc (g : MG) (mt : MT) (me : ME) (τ : AS) : List AV → AH → Res AV := fun xs h => lcL g mt me τ xs [] h
@[simp] theorem mLc_ev {is : List Nat} : mLc is g ea et e τ h = (ea τ h).bind (fLc g et e (wipeA τ is)) := rfl
@[simp] theorem fLc_ev : fLc g et e τ vs h = lcL g et e τ vs [] h := rfl
def fLcR (g : MG) (mt : MT) (me : ME) (τ : AS) : List AV → AH → Res AV := fun xs h => lcR g mt me τ h.length xs (h ++ [some (.lst [])])
@[simp] theorem mLcR_ev {is : List Nat} : mLcR is g ea et e τ h = (ea τ h).bind (fLcR g et e (wipeA τ is)) := rfl
@[simp] theorem fLcR_ev : fLcR g et e τ vs h = lcR g et e τ h.length vs (h ++ [some (.lst [])]) := rfl
@[simp] theorem wipeA_nil : wipeA τ [] = τ := rfl
@[simp] theorem wipeA_cons {is : List Nat} : wipeA τ (i :: is) = (wipeA τ is).set i none := rfl
@[simp] theorem mYes_ev : mYes τ h = .ok true h := rfl
def fChain2 (k k' : AV → AV → AH → Option (AV × AH)) (mc : ME) (τ : AS) (v : AV) : AV → AH → Res AV := fun w h => (Res.of (k v w h)).bind (chT k' mc τ w)
def fChain (k k' : AV → AV → AH → Option (AV × AH)) (mb mc : ME) (τ : AS) : AV → AH → Res AV := fun v h => (mb τ h).bind (fChain2 k k' mc τ v)
@[simp] theorem mChain_ev {k k' : AV → AV → AH → Option (AV × AH)} : mChain k k' e e2 e3 τ h = (e τ h).bind (fChain k k' e2 e3 τ) := rfl
@[simp] theorem fChain_ev {k k' : AV → AV → AH → Option (AV × AH)} : fChain k k' e2 e3 τ v h = (e2 τ h).bind (fChain2 k k' e3 τ v) := rfl
@[simp] theorem fChain2_ev {k k' : AV → AV → AH → Option (AV × AH)} : fChain2 k k' e3 τ v w h = (Res.of (k v w h)).bind (chT k' e3 τ w) := rfl
@[simp] theorem chT_t {k' : AV → AV → AH → Option (AV × AH)} : chT k' e τ w (.bl true) h = (e τ h).bind (fBin2 k' w) := rfl
@[simp] theorem chT_f {k' : AV → AV → AH → Option (AV × AH)} : chT k' e τ w (.bl false) h = .ok (.bl false) h := rfl
def fSl3 (v : AV) (l : Option Int) : Option Int → AH → Res AV := fun u h => .of (kSl v l u h)
def fSl2 (hi : MO) (τ : AS) (v : AV) : Option Int → AH → Res AV := fun l h => (mO hi τ h).bind (fSl3 v l)
def fSl (lo hi : MO) (τ : AS) : AV → AH → Res AV := fun v h => (mO lo τ h).bind (fSl2 hi τ v)
@[simp] theorem mSl_ev {lo hi : MO} : mSl e lo hi τ h = (e τ h).bind (fSl lo hi τ) := rfl
@[simp] theorem fSl_ev {lo hi : MO} : fSl lo hi τ v h = (mO lo τ h).bind (fSl2 hi τ v) := rfl
@[simp] theorem fSl2_ev {hi : MO} {l : Option Int} : fSl2 hi τ v l h = (mO hi τ h).bind (fSl3 v l) := rfl
@[simp] theorem fSl3_ev {l r : Option Int} : fSl3 v l r h = .of (kSl v l r h) := rfl
def fO : AV → AH → Res (Option Int) := fun w h => match w with
    | .int i => .ok (some i) h
    | _ => .stuck
@[simp] theorem mO_non : mO none τ h = .ok none h := rfl
@[simp] theorem mO_som : mO (some e) τ h = (e τ h).bind fO := rfl
@[simp] theorem fO_ev {i : Int} : fO (.int i) h = .ok (some i) h := rfl
@[simp] theorem mFmt_ev : mFmt e τ h = (e τ h).bind fmtA := rfl
@[simp] theorem fmtA_str {y : Str} : fmtA (.str y) h = if strS y.length then .ok (.str y) h else .stuck := rfl
@[simp] theorem fmtA_int {y : Int} : fmtA (.int y) h = if decide (y.natAbs.log2 < 1920) && PyData.strOk (toString y) then .ok (.str (toString y)) h else .stuck := rfl
def fJs (ms : List ME) (acc : Str) (τ : AS) : AV → AH → Res AV := fun v h => match v with
    | .str y => if small (acc ++ y).length then mJs ms (acc ++ y) τ h else .stuck
    | _ => .stuck
@[simp] theorem mJs_nil {acc : Str} : mJs [] acc τ h = .ok (.str acc) h := rfl
@[simp] theorem mJs_cons {acc : Str} {ms : List ME} : mJs (e :: ms) acc τ h = (e τ h).bind (fJs ms acc τ) := rfl
@[simp] theorem fJs_ev {acc y : Str} {ms : List ME} : fJs ms acc τ (.str y) h = if small (acc ++ y).length then mJs ms (acc ++ y) τ h else .stuck := rfl
@[simp] theorem lookup_cons' {k j : Nat} {w : AV} {r : List (Nat × AV)} : List.lookup k ((j, w) :: r) = if k = j then some w else List.lookup k r := by
  by_cases q : k = j
  · subst q; simp [List.lookup]
  · have : (k == j) = false := by simpa using q
    simp [List.lookup, this, q]
@[simp] theorem lookup_nil' {k : Nat} : List.lookup k ([] : List (Nat × AV)) = none := rfl
/-! values -/
@[simp] theorem plv_non : plainV .non = true := rfl
@[simp] theorem plv_bl : plainV (.bl b) = true := rfl
@[simp] theorem plv_int {i : Int} : plainV (.int i) = true := rfl
@[simp] theorem plv_str {i : Str} : plainV (.str i) = true := rfl
@[simp] theorem plv_tup {i : List AV} : plainV (.tup i) = true := rfl
@[simp] theorem plv_fl {i : List AV} : plainV (.fl i) = true := rfl
@[simp] theorem plv_fd {i : List (Key × AV)} : plainV (.fd i) = true := rfl
@[simp] theorem plv_ref {i : Nat} : plainV (.ref i) = true := rfl
@[simp] theorem plv_cls {i : Nat} : plainV (.cls i) = true := rfl
@[simp] theorem plv_ty {i : String} : plainV (.ty i) = true := rfl
@[simp] theorem plv_obj {i : Nat} {fs : List (Nat × AV)} : plainV (.obj i fs) = true := rfl
@[simp] theorem small_lit {n : Nat} : small n = decide (n ≤ 16777216) := rfl
@[simp] theorem kTup_ev : kTup vs h = if small vs.length then some (.tup vs, h) else none := rfl
@[simp] theorem kFl_ev : kFl vs h = if small vs.length then some (.fl vs, h) else none := rfl
@[simp] theorem kLst_ev : kLst vs h = if small vs.length then some (.ref h.length, h ++ [some (.lst vs)]) else none := rfl
@[simp] theorem kLen_tup : kLen [.tup vs] h = some (.int vs.length, h) := rfl
@[simp] theorem kLen_fl : kLen [.fl vs] h = some (.int vs.length, h) := rfl
@[simp] theorem kLen_str {x : Str} : kLen [.str x] h = if strS x.length then some (.int x.length, h) else none := rfl
@[simp] theorem kLen_ref {n : Nat} : kLen [.ref n] h = match h[n]? with | some (some (.lst xs)) => some (.int xs.length, h) | _ => none := rfl
@[simp] theorem kIx_tup {i : Int} : kIx (.tup vs) (.int i) h = (atI vs i).map fun v => (v, h) := rfl
@[simp] theorem kIx_fl {i : Int} : kIx (.fl vs) (.int i) h = (atI vs i).map fun v => (v, h) := rfl
@[simp] theorem kIx_ref {n : Nat} {i : Int} : kIx (.ref n) (.int i) h = match h[n]? with | some (some (.lst xs)) => (atI xs i).map fun v => (v, h) | _ => none := rfl
@[simp] theorem atI_ev {α : Type} {xs : List α} {i : Int} : atI xs i = (ixN xs.length i).bind fun j => xs[j]? := rfl
@[simp] theorem ixN_ev {n : Nat} {i : Int} : ixN n i = if 0 ≤ i then (if i < n then some i.toNat else none) else if -(n : Int) ≤ i then some (i + n).toNat else none := rfl
@[simp] theorem kInt_ev {i : Int} : kInt [.int i] h = some (.int i, h) := rfl
@[simp] theorem kAbs_ev {i : Int} : kAbs [.int i] h = some (.int (if i < 0 then -i else i), h) := rfl
@[simp] theorem kMax2_ev {i j : Int} : kMax2 [.int i, .int j] h = some (.int (if j > i then j else i), h) := rfl
@[simp] theorem kMin2_ev {i j : Int} : kMin2 [.int i, .int j] h = some (.int (if j < i then j else i), h) := rfl
@[simp] theorem kLt_ev {i j : Int} : kLt (.int i) (.int j) h = some (.bl (decide (i < j)), h) := rfl
@[simp] theorem kLe_ev {i j : Int} : kLe (.int i) (.int j) h = some (.bl (decide (i ≤ j)), h) := rfl
@[simp] theorem kGt_ev {i j : Int} : kGt (.int i) (.int j) h = some (.bl (decide (j < i)), h) := rfl
@[simp] theorem kGe_ev {i j : Int} : kGe (.int i) (.int j) h = some (.bl (decide (j ≤ i)), h) := rfl
@[simp] theorem kIsN_ev : kIsN v .non h = some (.bl (isNone v), h) := rfl
@[simp] theorem kNotN_ev : kNotN v .non h = some (.bl (!isNone v), h) := rfl
@[simp] theorem isNone_non : isNone .non = true := rfl
@[simp] theorem isNone_bl : isNone (.bl b) = false := rfl
@[simp] theorem isNone_int {i : Int} : isNone (.int i) = false := rfl
@[simp] theorem isNone_str {i : Str} : isNone (.str i) = false := rfl
@[simp] theorem isNone_tup : isNone (.tup vs) = false := rfl
@[simp] theorem isNone_fl : isNone (.fl vs) = false := rfl
@[simp] theorem isNone_ref {n : Nat} : isNone (.ref n) = false := rfl
@[simp] theorem isNone_obj {n : Nat} {fs : List (Nat × AV)} : isNone (.obj n fs) = false := rfl
@[simp] theorem kAdd_int {i j : Int} : kAdd (.int i) (.int j) h = some (.int (i + j), h) := rfl
@[simp] theorem kAdd_str {x y : Str} : kAdd (.str x) (.str y) h = if small (x.length + y.length) then some (.str (x ++ y), h) else none := rfl
@[simp] theorem kAdd_fl : kAdd (.fl vs) (.fl ws) h = if small (vs.length + ws.length) then some (.fl (vs ++ ws), h) else none := rfl
@[simp] theorem kAdd_tup : kAdd (.tup vs) (.tup ws) h = if small (vs.length + ws.length) && !vs.isEmpty then some (.tup (vs ++ ws), h) else none := rfl
@[simp] theorem kSub_ev {i j : Int} : kSub (.int i) (.int j) h = some (.int (i - j), h) := rfl
@[simp] theorem kMul_int {i j : Int} : kMul (.int i) (.int j) h = if mulOk i j then some (.int (i * j), h) else none := rfl
@[simp] theorem kMul_str {x : Str} {n : Int} : kMul (.str x) (.int n) h = if decide (0 ≤ n ∧ n ≤ 10000 ∧ x.length ≤ 1000) then some (.str (Txt.mul x n), h) else none := rfl
@[simp] theorem mulOk_ev {i j : Int} : mulOk i j = decide ((-18446744073709551616 < i ∧ i < 18446744073709551616) ∨ (-18446744073709551616 < j ∧ j < 18446744073709551616)) := rfl
@[simp] theorem kFdiv_ev {i j : Int} : kFdiv (.int i) (.int j) h = if decide (0 < j ∧ j < 10 ^ 60) then some (.int (i / j), h) else none := rfl
@[simp] theorem kMod_ev {i j : Int} : kMod (.int i) (.int j) h = if decide (0 < j) then some (.int (i % j), h) else none := rfl
@[simp] theorem kPow_ev {i j : Int} : kPow (.int i) (.int j) h = if decide (0 ≤ j ∧ j ≤ 1000000 ∧ -18446744073709551616 < i ∧ i < 18446744073709551616) then some (.int (i ^ j.toNat), h) else none := rfl
@[simp] theorem kNeg_ev {i : Int} : kNeg (.int i) h = some (.int (-i), h) := rfl
@[simp] theorem kListF_fl : kListF [.fl vs] h = if small vs.length then some (.fl vs, h) else none := rfl
@[simp] theorem kListF_tup : kListF [.tup vs] h = if small vs.length then some (.fl vs, h) else none := rfl
@[simp] theorem kListF_str {z : Str} : kListF [.str z] h = if small (z.cps.toList.map fun k => AV.str ⟨#[k]⟩).length then some (.fl (z.cps.toList.map fun k => AV.str ⟨#[k]⟩), h) else none := rfl
@[simp] theorem kListF_ref {n : Nat} : kListF [.ref n] h = (match h[n]? with | some (some (.lst xs)) => some xs | _ => none : Option (List AV)).bind fun xs => if small xs.length then some (.fl xs, h) else none := rfl
@[simp] theorem kListR_fl : kListR [.fl vs] h = if small vs.length then some (.ref h.length, h ++ [some (.lst vs)]) else none := rfl
@[simp] theorem kListR_tup : kListR [.tup vs] h = if small vs.length then some (.ref h.length, h ++ [some (.lst vs)]) else none := rfl
@[simp] theorem kListR_str {z : Str} : kListR [.str z] h = if small (z.cps.toList.map fun k => AV.str ⟨#[k]⟩).length then some (.ref h.length, h ++ [some (.lst (z.cps.toList.map fun k => AV.str ⟨#[k]⟩))]) else none := rfl
@[simp] theorem kListR_ref {n : Nat} : kListR [.ref n] h = (match h[n]? with | some (some (.lst xs)) => some xs | _ => none : Option (List AV)).bind fun xs => if small xs.length then some (.ref h.length, h ++ [some (.lst xs)]) else none := rfl
@[simp] theorem kEq_str (x y : Str) (h : AH) : kEq (.str x) (.str y) h = some (.bl (decide (x = y)), h) := by
  rw [show decide (x = y) = (x == y) from by by_cases e : x = y <;> simp [e]]; rfl
@[simp] theorem kEq_int (x y : Int) (h : AH) : kEq (.int x) (.int y) h = some (.bl (decide (x = y)), h) := by
  rw [show decide (x = y) = (x == y) from by by_cases e : x = y <;> simp [e]]; rfl
@[simp] theorem kNe_str (x y : Str) (h : AH) : kNe (.str x) (.str y) h = some (.bl (!decide (x = y)), h) := by
  rw [show decide (x = y) = (x == y) from by by_cases e : x = y <;> simp [e]]; rfl
@[simp] theorem kNe_int (x y : Int) (h : AH) : kNe (.int x) (.int y) h = some (.bl (!decide (x = y)), h) := by
  rw [show decide (x = y) = (x == y) from by by_cases e : x = y <;> simp [e]]; rfl
end
end PI
/-! how arguments come to parameters: by position, by name, by default; no *, no **. -/
namespace PI
open PySem PySem.Spec PyProof.Rows L2
theorem looks_forIn {α β : Type} {M : Model} {h : Heap} {f : α → β → Sem (ForInStep β)} {g : β → α → β} : ∀ (l : List α) (b : β), (∀ (pre : List α) (a : α) (post : List α), l = pre ++ a :: post → PySem.W.Looks M h (f a (pre.foldl g b)) (.yield (g (pre.foldl g b) a))) → PySem.W.Looks M h (forIn l b f) (l.foldl g b)
  | [], b, _ => by
    rw [List.forIn_nil]
    exact .now
  | a :: l, b, H => by
    rw [List.forIn_cons]
    refine PySem.W.Looks.andThen (H [] a l rfl) ?_
    exact looks_forIn l (g b a) fun pre a' post e => H (a :: pre) a' post (by rw [e]; rfl)
abbrev Slots := List (Str × Value)
def addD (s : Slots) (q : Str × Value) : Slots := if (s.lookup q.1).isNone = true then s ++ [q] else s
theorem lookup_app {n : Str} : ∀ (a b : Slots), (a ++ b).lookup n = match a.lookup n with | some v => some v | none => b.lookup n
  | [], b => rfl
  | (k, v) :: a, b => by
    rw [List.cons_append, List.lookup_cons, List.lookup_cons]
    cases n == k with
    | true => rfl
    | false => exact lookup_app a b
theorem lookup_addD {n : Str} : ∀ (l s : Slots), (l.foldl addD s).lookup n = (s ++ l).lookup n
  | [], s => by simp
  | q :: l, s => by
    rw [List.foldl_cons, lookup_addD l (addD s q)]
    unfold addD
    split
    · rw [List.append_assoc]; rfl
    · rename_i h
      rw [lookup_app, lookup_app]
      cases e : s.lookup n with
      | some v => rfl
      | none =>
        simp only
        obtain ⟨k, v⟩ := q
        rw [List.lookup_cons]
        cases e2 : n == k with
        | false => rfl
        | true =>
          have : n = k := by simpa using e2
          subst this
          rw [e] at h
          exact absurd rfl h
/-- the default of a keyword-only name -/
def KwV (M : Model) (h : Heap) (kd : Value) (n : Str) (v : Value) : Prop := ∃ d : Addr, kd = .ref d ∧ PySem.W.Looks M h (nsGet d n) (some v)
theorem fold_kw : ∀ (l s e : Slots), l.foldl (fun (s : Slots × Slots) q => (s.1 ++ [q], s.2)) (s, e) = (s ++ l, e)
  | [], s, e => by simp
  | q :: l, s, e => by rw [List.foldl_cons, fold_kw l]; simp
def addK (kdv : Str → Value) (s : Slots × List Str) (n : Str) : Slots × List Str := (addD s.1 (n, kdv n), s.2)
theorem fold_addK (kdv : Str → Value) : ∀ (l : List Str) (s : Slots) (e : List Str), l.foldl (addK kdv) (s, e) = ((l.map fun n => (n, kdv n)).foldl addD s, e)
  | [], s, e => rfl
  | n :: l, s, e => by rw [List.foldl_cons, addK, fold_addK kdv l]; rfl
theorem looks_bind {M : Model} {h : Heap} {fd : FuncData} {us : List Value} {kw : Slots} {pn kn : List Str} {its : List Value} {kdv : Str → Value} (hpo : fd.params.posonlyargs = []) (hva : fd.params.vararg = none) (hkw : fd.params.kwarg = none)
    (hpn : fd.params.args.map (fun x => x.arg) = pn) (hkn : fd.params.kwonlyargs.map (fun x => x.arg) = kn) (hu : us.length ≤ pn.length) (hk : ∀ q, q ∈ kw → (pn.contains q.1 || kn.contains q.1) = true)
    (hnd : ∀ (pre : Slots) (q : Str × Value) (post : Slots), kw = pre ++ q :: post → ((pn.zip us ++ pre).lookup q.1) = none)
    (hd : ∃ o : Option (Array Value), PySem.W.Looks M h (seqItems? fd.defaults) o ∧ (o.getD #[]).toList = its) (hit : its.length ≤ pn.length)
    (hreq : ∀ n, n ∈ pn.take (pn.length - its.length) → ((pn.zip us ++ kw).lookup n).isNone = false)
    (hkd : ∀ n, n ∈ kn → ((pn.zip us ++ kw ++ (pn.drop (pn.length - its.length)).zip its).lookup n).isNone = true → KwV M h fd.kwdefaults n (kdv n)) :
    PySem.W.Looks M h (bindArgs fd ⟨us, kw⟩) ((pn ++ kn).filterMap fun n => ((pn.zip us ++ kw ++ (pn.drop (pn.length - its.length)).zip its ++ kn.map fun n => (n, kdv n)).lookup n).map (n, ·)) := by
  obtain ⟨o, ho, hoi⟩ := hd
  unfold bindArgs
  simp only [hpo, hva, hkw, hpn, hkn, List.map_nil, List.nil_append]
  refine PySem.W.Looks.andThen (a := kw.foldl (fun (s : Slots × Slots) (q : Str × Value) => (s.1 ++ [q], s.2)) (pn.zip us, [])) (looks_forIn (g := fun (s : Slots × Slots) (q : Str × Value) => (s.1 ++ [q], s.2)) kw (pn.zip us, []) fun pre a post epre => ?_) ?_
  · rw [fold_kw]
    have h1 := hk a (by rw [epre]; simp)
    have h2 := hnd pre a post epre
    simp only [h1, h2, if_true, Option.isSome_none, Bool.false_eq_true, if_false]
    exact .now
  rw [fold_kw]
  refine PySem.W.Looks.andThen ho ?_
  simp only [hoi]
  have hz : its.length - pn.length = 0 := by omega
  have hgt : ¬ (us.length > pn.length) := by omega
  simp only [hz, List.drop_zero, Option.isNone_none, Bool.and_true, decide_eq_true_eq, hgt, if_false]
  have hmiss : (pn.take (pn.length - its.length)).filter (fun n => (List.lookup n (pn.zip us ++ kw)).isNone) = [] := by
    rw [List.filter_eq_nil_iff]
    intro n hn
    rw [hreq n hn]
    simp
  simp only [hmiss, List.isEmpty_nil, Bool.not_true, Bool.false_eq_true, if_false]
  refine PySem.W.Looks.andThen (a := ((pn.drop (pn.length - its.length)).zip its).foldl addD (pn.zip us ++ kw)) ?_ ?_
  · refine looks_forIn (g := addD) _ _ fun pre a post _ => ?_
    unfold addD
    split
    · exact .now
    · exact .now
  refine PySem.W.Looks.andThen (a := kn.foldl (addK kdv) (((pn.drop (pn.length - its.length)).zip its).foldl addD (pn.zip us ++ kw), [])) ?_ ?_
  · refine looks_forIn (g := addK kdv) _ _ fun pre n post epre => ?_
    rw [fold_addK]
    generalize hS0 : (pre.map fun n => (n, kdv n)).foldl addD (((pn.drop (pn.length - its.length)).zip its).foldl addD (pn.zip us ++ kw)) = S0
    unfold addK addD
    split
    · rename_i hnone
      have hn : n ∈ kn := by rw [epre]; simp
      have hS : ((pn.zip us ++ kw ++ (pn.drop (pn.length - its.length)).zip its).lookup n).isNone = true := by
        have q : (S0.lookup n).isNone = true := hnone
        rw [← hS0, lookup_addD, lookup_app, lookup_addD] at q
        cases e : (pn.zip us ++ kw ++ (pn.drop (pn.length - its.length)).zip its).lookup n with
        | none => rfl
        | some v => rw [e] at q; exact absurd q (by simp)
      obtain ⟨d, ed, hl⟩ := hkd n hn hS
      rw [ed]
      refine PySem.W.Looks.andThen hl ?_
      exact .now
    · exact .now
  rw [fold_addK]
  simp only [List.isEmpty_nil, Bool.not_true, Bool.false_eq_true, if_false]
  refine .of_pure ?_
  congr 1
  congr 1
  funext n
  rw [lookup_addD, lookup_app, lookup_addD, ← lookup_app]
/-- the k-th name of N stands for the k-th value -/
theorem lookup_zip {n : Str} : ∀ (N : List Str) (vs : List Value), N.length = vs.length → (N.zip vs).lookup n = (N.findIdx? (· == n)).bind (vs[·]?)
  | [], [], _ => rfl
  | k :: N, v :: vs, h => by
    rw [List.zip_cons_cons, List.lookup_cons, List.findIdx?_cons]
    by_cases e : k = n
    · subst e; simp
    · have e1 : (n == k) = false := by simpa using fun q => e q.symm
      have e2 : (k == n) = false := by simpa using e
      rw [e1, e2, lookup_zip N vs (by simpa using h)]
      simp only [Bool.false_eq_true, if_false]
      cases N.findIdx? (· == n) <;> rfl
  | [], _ :: _, h => by cases h
  | _ :: _, [], h => by cases h
def pkOf (N ps : List Str) : List Nat := ps.map fun n => (N.findIdx? (· == n)).getD 0
theorem pick_zip (N : List Str) (vs : List Value) (h : N.length = vs.length) : ∀ ps : List Str, (∀ n, n ∈ ps → n ∈ N) → ps.filterMap (fun n => ((N.zip vs).lookup n).map (n, ·)) = ps.zip (pickL (pkOf N ps) vs)
  | [], _ => rfl
  | n :: ps, H => by
    have ih := pick_zip N vs h ps fun m hm => H m (by simp [hm])
    have hn := H n (by simp)
    obtain ⟨i, hi⟩ : ∃ i, N.findIdx? (· == n) = some i := by
      cases e : N.findIdx? (· == n) with
      | some i => exact ⟨i, rfl⟩
      | none =>
        rw [List.findIdx?_eq_none_iff] at e
        have := e n hn
        simp at this
    have hlt : i < N.length := by
      have := List.findIdx?_eq_some_iff_getElem.mp hi
      exact this.1
    have hv : vs[i]? = some vs[i] := List.getElem?_eq_getElem (by omega)
    rw [List.filterMap_cons, lookup_zip N vs h, hi]
    simp only [Option.bind_some, hv, Option.map_some, ih]
    have e1 : pkOf N (n :: ps) = i :: pkOf N ps := by unfold pkOf; rw [List.map_cons, hi]; rfl
    rw [e1]
    unfold pickL
    rw [List.filterMap_cons_some hv, List.zip_cons_cons]
def nodupS : List Str → Bool
  | [] => true
  | a :: r => !r.contains a && nodupS r
theorem nodupS_of : ∀ {l : List Str}, nodupS l = true → l.Nodup
  | [], _ => List.nodup_nil
  | a :: r, h => by
    unfold nodupS at h
    rw [Bool.and_eq_true] at h
    refine List.nodup_cons.mpr ⟨fun q => ?_, nodupS_of h.2⟩
    have := h.1
    simp [q] at this
/-- all that a call's shape must fulfil: pn parameters, kn keyword-only ones, ks keywords written, dk keyword-only ones with defaults, n values written, d defaults -/
def bindOk (pn kn ks dk : List Str) (n d : Nat) : Bool :=
  decide (n ≤ pn.length) && decide (d ≤ pn.length) && ks.all (fun k => pn.contains k || kn.contains k) && nodupS (pn.take n ++ ks) && (pn.take (pn.length - d)).all (fun m => (pn.take n ++ ks).contains m) && kn.all (fun m => ks.contains m || dk.contains m)
theorem lookup_none {n : Str} : ∀ {l : Slots}, l.lookup n = none ↔ n ∉ l.map (·.1)
  | [] => by simp
  | (k, v) :: l => by
    rw [List.lookup_cons, List.map_cons, List.mem_cons]
    by_cases e : n = k
    · subst e; simp
    · have : (n == k) = false := by simpa using e
      rw [this]
      simp only [lookup_none (l := l), e, false_or]
theorem map_zip {N : List Str} {vs : List Value} (h : N.length ≤ vs.length) : (N.zip vs).map (·.1) = N := by
  rw [List.map_fst_zip]; exact h
theorem zip_take' : ∀ (pn : List Str) (us : List Value), pn.zip us = (pn.take us.length).zip us
  | [], us => by simp
  | p :: pn, [] => by simp
  | p :: pn, u :: us => by
    rw [List.length_cons, List.take_succ_cons, List.zip_cons_cons, List.zip_cons_cons, zip_take' pn us]
theorem zip_take {pn : List Str} {us : List Value} : pn.zip us = (pn.take us.length).zip us := zip_take' pn us
theorem map_pair (f : Str → Value) : ∀ l : List Str, l.map (fun m => (m, f m)) = l.zip (l.map f)
  | [] => rfl
  | m :: l => by rw [List.map_cons, List.map_cons, List.zip_cons_cons, map_pair f l]
theorem kdv_vals {kws : List (Str × V)} {kv : List Value} (r : Vals (kws.map (·.2)) kv) (m : Str) : RelV ((kws.lookup m).getD .non) ((((kws.map (·.1)).zip kv).lookup m).getD .none) := by
  induction kws generalizing kv with
  | nil => cases r; exact rfl
  | cons q kws ih =>
    obtain ⟨k, v⟩ := q
    cases r with
    | cons ru rr =>
      rename_i u us
      rw [List.lookup_cons]
      show RelV _ ((List.lookup m ((k, u) :: (kws.map (·.1)).zip us)).getD .none)
      rw [List.lookup_cons]
      cases m == k with
      | true => exact ru
      | false => exact ih rr
theorem vals_map {kws : List (Str × V)} {kv : List Value} (r : Vals (kws.map (·.2)) kv) : ∀ kn : List Str, Vals (kn.map fun m => (kws.lookup m).getD .non) (kn.map fun m => (((kws.map (·.1)).zip kv).lookup m).getD .none)
  | [] => .nil
  | m :: kn => .cons (kdv_vals r m) (vals_map r kn)
theorem kb_gen {K : PySem.W.Frag} {x qual : Str} {params : Arguments} {body : List Stmt} {scope : Scope} {dvs : List V} {kws : List (Str × V)} {f : Addr} {fd : FuncData} (F : FunD K x qual params body scope dvs kws f fd) {pn kn : List Str} (n : Nat) (ks : List Str) (pk : List Nat)
    (hpo : params.posonlyargs = []) (hva : params.vararg = none) (hkw : params.kwarg = none) (hpn : params.args.map (fun x => x.arg) = pn) (hkn : params.kwonlyargs.map (fun x => x.arg) = kn)
    (ok : bindOk pn kn ks (kws.map (·.1)) n dvs.length = true) (hpk : pkOf (pn.take n ++ ks ++ pn.drop (pn.length - dvs.length) ++ kn) (pn ++ kn) = pk) :
    ∃ ds : List Value, Vals (dvs ++ kn.map fun m => (kws.lookup m).getD .non) ds ∧ KBn K fd (pn ++ kn) n ks (fun us ws => pickL pk (us ++ ws ++ ds)) (fun vs zs => pickL pk (vs ++ zs ++ (dvs ++ kn.map fun m => (kws.lookup m).getD .non))) := by
  unfold bindOk at ok
  simp only [Bool.and_eq_true, decide_eq_true_eq, List.all_eq_true, Bool.or_eq_true, List.contains_iff_mem] at ok
  obtain ⟨⟨⟨⟨⟨o1, o2⟩, o3⟩, o4⟩, o5⟩, o6⟩ := ok
  have o4 := nodupS_of o4
  obtain ⟨oc, od, dV, kV, doc, pm, an, cdv, ct, osl, rfl, lk, hcd, hD, hK⟩ := F.ex
  -- the defaults
  obtain ⟨its, ri, hits⟩ : ∃ its : List Value, Vals dvs its ∧ ∀ (M : Model) (h : Heap), K.In h → ∃ o : Option (Array Value), PySem.W.Looks M h (seqItems? dV) o ∧ (o.getD #[]).toList = its := by
    rcases hD with ⟨rfl, rfl⟩ | ⟨_, T, o, its, m, rfl, lT, oT, rT⟩
    · exact ⟨[], .nil, fun M h _ => ⟨none, .of_pure rfl, rfl⟩⟩
    · exact ⟨its, rT, fun M h X => ⟨some its.toArray, by have := looks_items (M := M) (k := fun r => pure r) X lT oT .now; simpa using this, by simp⟩⟩
  obtain ⟨kv, rk, hkv⟩ : ∃ kv : List Value, Vals (kws.map (·.2)) kv ∧ ∀ (M : Model) (h : Heap), K.In h → ∀ m, m ∈ kws.map (·.1) → KwV M h kV m ((((kws.map (·.1)).zip kv).lookup m).getD .none) := by
    rcases hK with rfl | ⟨D, rfl, hq⟩
    · exact ⟨[], .nil, fun _ _ _ m hm => absurd hm (by simp)⟩
    · obtain ⟨us, e, r, a⟩ := kwd_vals hq
      refine ⟨us, r, fun M h X m hm => ⟨D, rfl, ?_⟩⟩
      have hl : ((kws.map (·.1)).zip us).map (·.1) = kws.map (·.1) := map_zip (by rw [List.length_map]; omega)
      cases e2 : ((kws.map (·.1)).zip us).lookup m with
      | none => rw [lookup_none, hl] at e2; exact absurd hm e2
      | some v =>
        have hmem : (m, v) ∈ (kws.map (·.1)).zip us := by
          have : ∀ {l : Slots}, l.lookup m = some v → (m, v) ∈ l := by
            intro l
            induction l with
            | nil => intro q; simp at q
            | cons p l ih =>
              intro q
              obtain ⟨k, w⟩ := p
              rw [List.lookup_cons] at q
              split at q
              · rename_i e3
                have : m = k := by simpa using e3
                subst this
                cases q
                simp
              · exact List.mem_cons_of_mem _ (ih q)
          exact this e2
        exact PySem.W.looks_nsIn X (a (m, v) hmem)
  refine ⟨its ++ kn.map fun m => (((kws.map (·.1)).zip kv).lookup m).getD .none, ri.append (vals_map rk kn), ⟨fun s us ws X l1 l2 => ?_, fun r1 r2 => pick_vals ((r1.append r2).append (ri.append (vals_map rk kn))) pk⟩⟩
  have li := ri.length
  refine BindsTo.of_looks fun M => ?_
  have ks1 : (ks.zip ws).map (·.1) = ks := map_zip (by omega)
  have L := looks_bind (M := M) (h := s.heap) (fd := PySem.W.fnOf x qual params body scope dV kV doc pm an cdv ct) (us := us) (kw := ks.zip ws) (pn := pn) (kn := kn) (its := its) (kdv := fun m => (((kws.map (·.1)).zip kv).lookup m).getD .none) hpo hva hkw hpn hkn (by omega)
    (fun q hq => by
      have : q.1 ∈ ks := by rw [← ks1]; exact List.mem_map_of_mem hq
      simpa using o3 q.1 this)
    (fun pre q post e => by
      rw [lookup_none, List.map_append, zip_take, map_zip (by simp; omega), l1]
      have e3 : ks = pre.map (·.1) ++ q.1 :: post.map (·.1) := by rw [← ks1, e]; simp
      rw [e3, ← List.append_assoc, List.nodup_append] at o4
      exact fun hm => o4.2.2 _ hm _ (by simp) rfl)
    (hits M s.heap X) (by omega)
    (fun m hm => by
      have := o5 m (by rw [li]; exact hm)
      cases e : ((pn.zip us ++ ks.zip ws).lookup m) with
      | some v => rfl
      | none =>
        rw [lookup_none, List.map_append, zip_take, map_zip (by simp; omega), l1, ks1] at e
        exact absurd this e)
    (fun m hm e => by
      rcases o6 m hm with q | q
      · have e' := Option.isNone_iff_eq_none.mp e
        rw [lookup_none, List.map_append, List.map_append, ks1] at e'
        exact absurd (by simp [q]) e'
      · exact hkv M s.heap X m q)
  have hz : pn.zip us ++ ks.zip ws ++ (pn.drop (pn.length - its.length)).zip its ++ kn.map (fun m => (m, (((kws.map (·.1)).zip kv).lookup m).getD .none)) = (pn.take n ++ ks ++ pn.drop (pn.length - its.length) ++ kn).zip (us ++ ws ++ (its ++ kn.map fun m => (((kws.map (·.1)).zip kv).lookup m).getD .none)) := by
    rw [← List.append_assoc (us ++ ws), List.zip_append (by simp; omega), List.zip_append (by simp; omega), List.zip_append (by simp; omega), zip_take, l1]
    rw [map_pair]
  rw [hz, pick_zip _ _ (by simp; omega)] at L
  · rw [li] at hpk
    rw [hpk] at L
    exact L
  · intro m hm
    rcases List.mem_append.mp hm with hm | hm
    · rw [← List.take_append_drop (pn.length - its.length) pn] at hm
      rcases List.mem_append.mp hm with hm | hm
      · have := o5 m (by rw [li]; exact hm)
        simp only [List.mem_append] at this ⊢
        rcases this with q | q
        · exact .inl (.inl (.inl q))
        · exact .inl (.inl (.inr q))
      · simp only [List.mem_append]; exact .inl (.inr hm)
    · simp only [List.mem_append]; exact .inr hm
/-! ### calls with names and defaults -/
theorem gv_non {G : Gx} : GV G .non .non := fun _ => .non
theorem gv_bl {G : Gx} {b : Bool} : GV G (.bl b) (.bl b) := fun _ => .bl
structure KBD (G : Gx) (K : PySem.W.Frag) (fd : FuncData) (ps : List Str) (n : Nat) (ks : List Str) (pk : List Nat) (dws : List AV) : Prop where
  ex : ∃ (dvs : List V) (ds : List Value), Vals dvs ds ∧ GVs G dws dvs ∧ KBn K fd ps n ks (fun us ws => pickL pk (us ++ ws ++ ds)) (fun vs zs => pickL pk (vs ++ zs ++ dvs))
theorem kbd_of {G : Gx} {K : PySem.W.Frag} {x qual : Str} {params : Arguments} {body : List Stmt} {scope : Scope} {dvs : List V} {kws : List (Str × V)} {f : Addr} {fd : FuncData} {dws : List AV} (F : FunD K x qual params body scope dvs kws f fd) {pn kn : List Str} (n : Nat) (ks : List Str) (pk : List Nat)
    (hpo : params.posonlyargs = []) (hva : params.vararg = none) (hkw : params.kwarg = none) (hpn : params.args.map (fun x => x.arg) = pn) (hkn : params.kwonlyargs.map (fun x => x.arg) = kn)
    (ok : bindOk pn kn ks (kws.map (·.1)) n dvs.length = true) (hpk : pkOf (pn.take n ++ ks ++ pn.drop (pn.length - dvs.length) ++ kn) (pn ++ kn) = pk) (g : GVs G dws (dvs ++ kn.map fun m => (kws.lookup m).getD .non)) : KBD G K fd (pn ++ kn) n ks pk dws :=
  let ⟨ds, r, b⟩ := kb_gen F n ks pk hpo hva hkw hpn hkn ok hpk
  ⟨_, ds, r, g, b⟩
section
variable {G : Gx} {B : Bx} {zs : Addr → Prop} {W : WX} {X : Cx} {c c' : Cfg} {L : List Addr} {τ : AS} {σ : SL} {pos pos' p apos cpos : Pos} {e o a : Expr} {es : List Expr} {m n mo me : ME} {ma mi mk : MA} {mt : MT} {x s : Str} {i : Nat} {vs : List Nat}
theorem pick_succ {α : Type} (x : α) (l : List α) (pk : List Nat) : pickL (0 :: pk.map (· + 1)) (x :: l) = x :: pickL pk l := by
  unfold pickL
  rw [List.filterMap_cons_some (by rfl), List.filterMap_map]
  congr 1
def fCallN2 (n m : Nat) (f : FN) (pk : List Nat) (dws vs : List AV) : List AV → AH → Res AV := fun zs h => if vs.length = n ∧ zs.length = m then f (pickL pk (vs ++ zs ++ dws)) h else .stuck
def fCallN (n m : Nat) (f : FN) (pk : List Nat) (dws : List AV) (mk : MA) (τ : AS) : List AV → AH → Res AV := fun vs h => (mk τ h).bind (fCallN2 n m f pk dws vs)
/-- f(a, .., k = b, ..) -/
def mCallN (n m : Nat) (f : FN) (pk : List Nat) (dws : List AV) (ma mk : MA) : ME := fun τ h => (ma τ h).bind (fCallN n m f pk dws mk τ)
@[simp] theorem mCallN_ev {n m : Nat} {f : FN} {pk : List Nat} {dws : List AV} {h : AH} : mCallN n m f pk dws ma mk τ h = (ma τ h).bind (fCallN n m f pk dws mk τ) := rfl
@[simp] theorem fCallN_ev {n m : Nat} {f : FN} {pk : List Nat} {dws vs : List AV} {h : AH} : fCallN n m f pk dws mk τ vs h = (mk τ h).bind (fCallN2 n m f pk dws vs) := rfl
@[simp] theorem fCallN2_ev {n m : Nat} {f : FN} {pk : List Nat} {dws vs zs : List AV} {h : AH} : fCallN2 n m f pk dws vs zs h = if vs.length = n ∧ zs.length = m then f (pickL pk (vs ++ zs ++ dws)) h else .stuck := rfl
theorem ie_callN {k N nn : Nat} {f : Addr} {fd : FuncData} {ps ks : List Str} {pk : List Nat} {dws : List AV} {fn : FN} {kws : List Keyword} (F : FnOk X.prog X.w X.K X.mg X.base (L2.CX X.prog X.w) k f fd ps (spF G N fn)) (hr : Room k X.A) (tk : Takes X W) (hm : X.mg x = some (.ref f)) (hk : PySem.W.keepIn X.K (.ref f) = true) (hb : KBD G X.K fd ps nn ks pk dws)
    (ha : IA G B W X (e :: es) ma) (hkw : IK G B W X kws mk) (hg : Gl X x := by rfl) (hall : (backToKw pos (keywordEach kws X.env)).all (·.1.isSome) = true := by rfl) (hks : (backToKw pos (keywordEach kws X.env)).filterMap (·.1) = ks := by rfl) (hdb : (x == ("__debug__" : Str)) = false := by decide)
    (he : starEach (e :: es) X.env = (false, eval e X.env) :: starEach es X.env := by rfl) (hpl : ((backTo pos (starEach (e :: es) X.env)).any (·.1) || (backToKw pos (keywordEach kws X.env)).any (·.1.isNone)) = false := by rfl) :
    IE G B W X (.Call (.Name x p) (e :: es) kws pos) (mCallN nn ks.length (chk N fn) pk dws ma mk) := by
  obtain ⟨dvs, ds, rd, gd, kb⟩ := hb.ex
  refine ⟨fun pins s σ H Q I ⟨c, τ, L, eH, rl, s', q⟩ => ?_⟩
  refine wpAny_Call_Name_kw (ld_glob I hg hm ?_ hdb)
  refine PySem.W.callWith_KW (h₀ := X.base) I.ok.mod.kin hk hall (thn (ha.run pos pins s σ H _ I ⟨c, τ, L, eH, rl, s', Post.bind (R := RVs G) q⟩) fun us s1 ⟨vs, H1, I1, r1, c1, xs, e1, N1, x1, p1⟩ => ?_) hpl he
  refine thn (hkw.run pos pins s1 σ H1 _ I1 ⟨c1, τ, L, e1.symm, N1.rel, s'.nxt N1, Post.bind (R := RVs G) p1⟩) fun ws s2 ⟨zs, H2, I2, r2, c2, ys, e2, N2, x2, p2⟩ => ⟨I2.kIn, ?_⟩
  rw [hks]
  unfold fCallN2 at p2
  by_cases hl : xs.length = nn ∧ ys.length = ks.length
  · rw [if_pos hl] at p2
    have hN : (pickL pk (xs ++ ys ++ dws)).length = N := by
      unfold chk at p2
      by_cases q : (pickL pk (xs ++ ys ++ dws)).length = N
      · exact q
      · rw [if_neg q] at p2; exact p2.elim
    have p2' : Post G (RV G) c2 (fun k d H' => W k d σ H') Q (fn (pickL pk (xs ++ ys ++ dws)) c2.h) := by
      unfold chk at p2; rw [if_pos hN] at p2; exact p2
    subst e2
    have xx := pick_rvs (((x1.mono N2.mv).append x2).append (gd c2)) pk
    have hr2 := kb.rel (r1) r2
    refine wpAny_call (codeAny_mono (F.run X.A X.stack s2 c2.H ⟨us, ks.zip ws⟩ (pickL pk (us ++ ws ++ ds)) (pickL pk (vs ++ zs ++ dvs)) Q (fun k d H' => W k d σ H') hr I2.env0 (kb.to s2 us ws I2.kIn (by rw [← r1.length, ← x1.length]; exact hl.1) (by rw [← r2.length, ← x2.length]; exact hl.2)) hr2 (sp_of N2.rel xx hN p2')) fun r s' hq => ?_)
    cases r with
    | error e => exact (passAt tk σ) pins c2.H s2 e s' I2 hq
    | ok fl =>
      cases fl with
      | ret u => exact I2.after hq
      | next => exact False.elim hq
      | brk => exact False.elim hq
      | cont => exact False.elim hq
  · rw [if_neg hl] at p2; exact p2.elim
def fMkN2 (kc n m : Nat) (f : FI) (pk : List Nat) (dws vs : List AV) : List AV → AH → Res AV := fun zs h => if vs.length = n ∧ zs.length = m then (f (pickL pk (vs ++ zs ++ dws)) h).bind (fMk2 kc) else .stuck
def fMkN1 (kc n m : Nat) (f : FI) (pk : List Nat) (dws : List AV) (mk : MA) (τ : AS) : List AV → AH → Res AV := fun vs h => (mk τ h).bind (fMkN2 kc n m f pk dws vs)
def mMkN (kc n m : Nat) (f : FI) (pk : List Nat) (dws : List AV) (ma mk : MA) : ME := fun τ h => (ma τ h).bind (fMkN1 kc n m f pk dws mk τ)
@[simp] theorem mMkN_ev {kc n m : Nat} {f : FI} {pk : List Nat} {dws : List AV} {h : AH} : mMkN kc n m f pk dws ma mk τ h = (ma τ h).bind (fMkN1 kc n m f pk dws mk τ) := rfl
@[simp] theorem fMkN1_ev {kc n m : Nat} {f : FI} {pk : List Nat} {dws vs : List AV} {h : AH} : fMkN1 kc n m f pk dws mk τ vs h = (mk τ h).bind (fMkN2 kc n m f pk dws vs) := rfl
@[simp] theorem fMkN2_ev {kc n m : Nat} {f : FI} {pk : List Nat} {dws vs zs : List AV} {h : AH} : fMkN2 kc n m f pk dws vs zs h = if vs.length = n ∧ zs.length = m then (f (pickL pk (vs ++ zs ++ dws)) h).bind (fMk2 kc) else .stuck := rfl
theorem ie_mkN {kc k N nn : Nat} {f : Addr} {fd : FuncData} {ps ks : List Str} {pk : List Nat} {dws : List AV} {fi : FI} {kws : List Keyword} (M : Mk X.K (G.ca kc) f) (F : FnOk X.prog X.w X.K X.mg X.base (L2.CX X.prog X.w) k f fd ps (spI G kc N fi)) (hr : Room (k + 1) X.A) (tk : Takes X W) (hm : X.mg x = some (.ref (G.ca kc))) (hb : KBD G X.K fd ps (nn + 1) ks (0 :: pk.map (· + 1)) dws)
    (ha : IA G B W X (e :: es) ma) (hkw : IK G B W X kws mk) (hg : Gl X x := by rfl) (hall : (backToKw pos (keywordEach kws X.env)).all (·.1.isSome) = true := by rfl) (hks : (backToKw pos (keywordEach kws X.env)).filterMap (·.1) = ks := by rfl) (hdb : (x == ("__debug__" : Str)) = false := by decide)
    (he : starEach (e :: es) X.env = (false, eval e X.env) :: starEach es X.env := by rfl) (hpl : ((backTo pos (starEach (e :: es) X.env)).any (·.1) || (backToKw pos (keywordEach kws X.env)).any (·.1.isNone)) = false := by rfl) :
    IE G B W X (.Call (.Name x p) (e :: es) kws pos) (mMkN kc nn ks.length (chkI N fi) pk dws ma mk) := by
  obtain ⟨dvs, ds, rd, gd, kb⟩ := hb.ex
  refine ⟨fun pins s σ H Q I ⟨c, τ, L, eH, rl, s', q⟩ => ?_⟩
  refine wpAny_Call_Name_kw (ld_glob I hg hm ?_ hdb)
  refine PySem.W.callWith_KW (h₀ := X.base) I.ok.mod.kin M.kp hall (thn (ha.run pos pins s σ H _ I ⟨c, τ, L, eH, rl, s', Post.bind (R := RVs G) q⟩) fun us s1 ⟨vs, H1, I1, r1, c1, xs, e1, N1, x1, p1⟩ => ?_) hpl he
  refine thn (hkw.run pos pins s1 σ H1 _ I1 ⟨c1, τ, L, e1.symm, N1.rel, s'.nxt N1, Post.bind (R := RVs G) p1⟩) fun ws s2 ⟨zs, H2, I2, r2, c2, ys, e2, N2, x2, p2⟩ => ⟨I2.kIn, ?_⟩
  rw [hks]
  unfold fMkN2 at p2
  by_cases hl : xs.length = nn ∧ ys.length = ks.length
  · rw [if_pos hl] at p2
    subst e2
    refine run_makeKS (E := fun σ k d H => W k d σ H) M F hr kb (passAt tk σ) I2 r1 r2 (by rw [← x1.length]; exact hl.1) (by rw [← x2.length]; exact hl.2) fun y dx hy hdx ne => ?_
    show (spI G kc N fi) (pickL (0 :: pk.map (· + 1)) (.ref y :: (vs ++ zs ++ dvs))) _ _ _
    rw [pick_succ]
    exact spI_new N2.rel (pick_rvs (((x1.mono N2.mv).append x2).append (gd c2)) pk) hy hdx ne p2
  · rw [if_neg hl] at p2; exact p2.elim
theorem ie_mkN0 {kc k N : Nat} {f : Addr} {fd : FuncData} {ps ks : List Str} {pk : List Nat} {dws : List AV} {fi : FI} {kws : List Keyword} (M : Mk X.K (G.ca kc) f) (F : FnOk X.prog X.w X.K X.mg X.base (L2.CX X.prog X.w) k f fd ps (spI G kc N fi)) (hr : Room (k + 1) X.A) (tk : Takes X W) (hm : X.mg x = some (.ref (G.ca kc))) (hb : KBD G X.K fd ps (0 + 1) ks (0 :: pk.map (· + 1)) dws)
    (hkw : IK G B W X kws mk) (hg : Gl X x := by rfl) (hall : (backToKw pos (keywordEach kws X.env)).all (·.1.isSome) = true := by rfl) (hks : (backToKw pos (keywordEach kws X.env)).filterMap (·.1) = ks := by rfl) (hdb : (x == ("__debug__" : Str)) = false := by decide)
    (hpl : ((backTo pos (starEach [] X.env)).any (·.1) || (backToKw pos (keywordEach kws X.env)).any (·.1.isNone)) = false := by rfl) :
    IE G B W X (.Call (.Name x p) [] kws pos) (mMkN kc 0 ks.length (chkI N fi) pk dws mNil mk) := by
  obtain ⟨dvs, ds, rd, gd, kb⟩ := hb.ex
  refine ⟨fun pins s σ H Q I ⟨c, τ, L, eH, rl, s', q⟩ => ?_⟩
  refine wpAny_Call_Name_kw (ld_glob I hg hm ?_ hdb)
  refine PySem.W.callWith_KW0 (h₀ := X.base) I.ok.mod.kin M.kp hall ?_ hpl
  have q' : Post G (RV G) c (fun k d H' => W k d σ H') Q ((mk τ c.h).bind (fMkN2 kc 0 ks.length (chkI N fi) pk dws [])) := q
  refine thn (hkw.run pos pins s σ H _ I ⟨c, τ, L, eH, rl, s', Post.bind (R := RVs G) q'⟩) fun ws s2 ⟨zs, H2, I2, r2, c2, ys, e2, N2, x2, p2⟩ => ⟨I2.kIn, ?_⟩
  rw [hks]
  unfold fMkN2 at p2
  by_cases hl : ([] : List AV).length = 0 ∧ ys.length = ks.length
  · rw [if_pos hl] at p2
    subst e2
    refine run_makeKS (E := fun σ k d H => W k d σ H) M F hr kb (passAt tk σ) (us := []) (vs := []) I2 .nil r2 rfl (by rw [← x2.length]; exact hl.2) fun y dx hy hdx ne => ?_
    show (spI G kc N fi) (pickL (0 :: pk.map (· + 1)) (.ref y :: (([] : List V) ++ zs ++ dvs))) _ _ _
    rw [pick_succ]
    exact spI_new N2.rel (pick_rvs ((RVs.append .nil x2).append (gd c2)) pk) hy hdx ne p2
  · rw [if_neg hl] at p2; exact p2.elim
def fMkRN2 (kc n m : Nat) (f : FN) (pk : List Nat) (dws vs : List AV) : List AV → AH → Res AV := fun zs h => if vs.length = n ∧ zs.length = m then (f (.ref h.length :: pickL pk (vs ++ zs ++ dws)) (h ++ [some (.ins kc [])])).made h.length else .stuck
def fMkRN1 (kc n m : Nat) (f : FN) (pk : List Nat) (dws : List AV) (mk : MA) (τ : AS) : List AV → AH → Res AV := fun vs h => (mk τ h).bind (fMkRN2 kc n m f pk dws vs)
def mMkRN (kc n m : Nat) (f : FN) (pk : List Nat) (dws : List AV) (ma mk : MA) : ME := fun τ h => (ma τ h).bind (fMkRN1 kc n m f pk dws mk τ)
@[simp] theorem mMkRN_ev {kc n m : Nat} {f : FN} {pk : List Nat} {dws : List AV} {h : AH} : mMkRN kc n m f pk dws ma mk τ h = (ma τ h).bind (fMkRN1 kc n m f pk dws mk τ) := rfl
@[simp] theorem fMkRN1_ev {kc n m : Nat} {f : FN} {pk : List Nat} {dws vs : List AV} {h : AH} : fMkRN1 kc n m f pk dws mk τ vs h = (mk τ h).bind (fMkRN2 kc n m f pk dws vs) := rfl
@[simp] theorem fMkRN2_ev {kc n m : Nat} {f : FN} {pk : List Nat} {dws vs zs : List AV} {h : AH} : fMkRN2 kc n m f pk dws vs zs h = if vs.length = n ∧ zs.length = m then (f (.ref h.length :: pickL pk (vs ++ zs ++ dws)) (h ++ [some (.ins kc [])])).made h.length else .stuck := rfl
theorem ie_mkRN {kc k N nn : Nat} {f : Addr} {fd : FuncData} {ps ks : List Str} {pk : List Nat} {dws : List AV} {fi : FN} {kws : List Keyword} (M : Mk X.K (G.ca kc) f) (F : FnOk X.prog X.w X.K X.mg X.base (L2.CX X.prog X.w) k f fd ps (spF G N fi)) (hr : Room (k + 1) X.A) (tk : Takes X W) (hm : X.mg x = some (.ref (G.ca kc))) (hb : KBD G X.K fd ps (nn + 1) ks (0 :: pk.map (· + 1)) dws)
    (ha : IA G B W X (e :: es) ma) (hkw : IK G B W X kws mk) (hg : Gl X x := by rfl) (hall : (backToKw pos (keywordEach kws X.env)).all (·.1.isSome) = true := by rfl) (hks : (backToKw pos (keywordEach kws X.env)).filterMap (·.1) = ks := by rfl) (hdb : (x == ("__debug__" : Str)) = false := by decide)
    (he : starEach (e :: es) X.env = (false, eval e X.env) :: starEach es X.env := by rfl) (hpl : ((backTo pos (starEach (e :: es) X.env)).any (·.1) || (backToKw pos (keywordEach kws X.env)).any (·.1.isNone)) = false := by rfl) :
    IE G B W X (.Call (.Name x p) (e :: es) kws pos) (mMkRN kc nn ks.length (chk N fi) pk dws ma mk) := by
  obtain ⟨dvs, ds, rd, gd, kb⟩ := hb.ex
  refine ⟨fun pins s σ H Q I ⟨c, τ, L, eH, rl, s', q⟩ => ?_⟩
  refine wpAny_Call_Name_kw (ld_glob I hg hm ?_ hdb)
  refine PySem.W.callWith_KW (h₀ := X.base) I.ok.mod.kin M.kp hall (thn (ha.run pos pins s σ H _ I ⟨c, τ, L, eH, rl, s', Post.bind (R := RVs G) q⟩) fun us s1 ⟨vs, H1, I1, r1, c1, xs, e1, N1, x1, p1⟩ => ?_) hpl he
  refine thn (hkw.run pos pins s1 σ H1 _ I1 ⟨c1, τ, L, e1.symm, N1.rel, s'.nxt N1, Post.bind (R := RVs G) p1⟩) fun ws s2 ⟨zs, H2, I2, r2, c2, ys, e2, N2, x2, p2⟩ => ⟨I2.kIn, ?_⟩
  rw [hks]
  unfold fMkRN2 at p2
  by_cases hl : xs.length = nn ∧ ys.length = ks.length
  · rw [if_pos hl] at p2
    subst e2
    refine run_makeKS (E := fun σ k d H => W k d σ H) M F hr kb (passAt tk σ) I2 r1 r2 (by rw [← x1.length]; exact hl.1) (by rw [← x2.length]; exact hl.2) fun y dx hy hdx ne => ?_
    show (spF G N fi) (pickL (0 :: pk.map (· + 1)) (.ref y :: (vs ++ zs ++ dvs))) _ _ _
    rw [pick_succ]
    exact spF_new N2.rel (pick_rvs (((x1.mono N2.mv).append x2).append (gd c2)) pk) hy hdx ne (by
      have p3 : Post G (RV G) c2 _ Q ((chk N fi (.ref c2.h.length :: pickL pk (xs ++ ys ++ dws)) (c2.h ++ [some (.ins kc [])])).made c2.h.length) := p2
      exact p3)
  · rw [if_neg hl] at p2; exact p2.elim
theorem ie_mkRN0 {kc k N : Nat} {f : Addr} {fd : FuncData} {ps ks : List Str} {pk : List Nat} {dws : List AV} {fi : FN} {kws : List Keyword} (M : Mk X.K (G.ca kc) f) (F : FnOk X.prog X.w X.K X.mg X.base (L2.CX X.prog X.w) k f fd ps (spF G N fi)) (hr : Room (k + 1) X.A) (tk : Takes X W) (hm : X.mg x = some (.ref (G.ca kc))) (hb : KBD G X.K fd ps (0 + 1) ks (0 :: pk.map (· + 1)) dws)
    (hkw : IK G B W X kws mk) (hg : Gl X x := by rfl) (hall : (backToKw pos (keywordEach kws X.env)).all (·.1.isSome) = true := by rfl) (hks : (backToKw pos (keywordEach kws X.env)).filterMap (·.1) = ks := by rfl) (hdb : (x == ("__debug__" : Str)) = false := by decide)
    (hpl : ((backTo pos (starEach [] X.env)).any (·.1) || (backToKw pos (keywordEach kws X.env)).any (·.1.isNone)) = false := by rfl) :
    IE G B W X (.Call (.Name x p) [] kws pos) (mMkRN kc 0 ks.length (chk N fi) pk dws mNil mk) := by
  obtain ⟨dvs, ds, rd, gd, kb⟩ := hb.ex
  refine ⟨fun pins s σ H Q I ⟨c, τ, L, eH, rl, s', q⟩ => ?_⟩
  refine wpAny_Call_Name_kw (ld_glob I hg hm ?_ hdb)
  refine PySem.W.callWith_KW0 (h₀ := X.base) I.ok.mod.kin M.kp hall ?_ hpl
  have q' : Post G (RV G) c (fun k d H' => W k d σ H') Q ((mk τ c.h).bind (fMkRN2 kc 0 ks.length (chk N fi) pk dws [])) := q
  refine thn (hkw.run pos pins s σ H _ I ⟨c, τ, L, eH, rl, s', Post.bind (R := RVs G) q'⟩) fun ws s2 ⟨zs, H2, I2, r2, c2, ys, e2, N2, x2, p2⟩ => ⟨I2.kIn, ?_⟩
  rw [hks]
  unfold fMkRN2 at p2
  by_cases hl : ([] : List AV).length = 0 ∧ ys.length = ks.length
  · rw [if_pos hl] at p2
    subst e2
    refine run_makeKS (E := fun σ k d H => W k d σ H) M F hr kb (passAt tk σ) (us := []) (vs := []) I2 .nil r2 rfl (by rw [← x2.length]; exact hl.2) fun y dx hy hdx ne => ?_
    show (spF G N fi) (pickL (0 :: pk.map (· + 1)) (.ref y :: (([] : List V) ++ zs ++ dvs))) _ _ _
    rw [pick_succ]
    exact spF_new N2.rel (pick_rvs ((RVs.append .nil x2).append (gd c2)) pk) hy hdx ne (by
      have p3 : Post G (RV G) c2 _ Q ((chk N fi (.ref c2.h.length :: pickL pk ([] ++ ys ++ dws)) (c2.h ++ [some (.ins kc [])])).made c2.h.length) := p2
      exact p3)
  · rw [if_neg hl] at p2; exact p2.elim
end
/-! ### defs with defaults -/
theorem toD {K : PySem.W.Frag} {x qual : Str} {st : Stmt} {f : Addr} {fd : FuncData} (F : Fun K x qual st f fd) : FunD K x qual (defArgs st) (defBody st) (defScope st) [] [] f fd := by
  obtain ⟨oc, od, kV, doc, pm, an, cdv, ct, osl, e, lk, hcd⟩ := F.ex
  exact ⟨⟨oc, od, .none, kV, doc, pm, an, cdv, ct, osl, e, lk, hcd, .inl ⟨rfl, rfl⟩, .inl rfl⟩, F.kp⟩
section
variable {P : Program} {w : World} {K : PySem.W.Frag} {mg : Str → Option Value} {base : Heap}
theorem ok_fnD {G : Gx} {B : Bx} {x qual : Str} {st : Stmt} {f : Addr} {fd : FuncData} {N ps : List Str} {k : Nat} {b : MS} {dvs : List V} {kws : List (Str × V)} (F : FunD K x qual (defArgs st) (defBody st) (defScope st) dvs kws f fd) (S : FnScope N ps (defScope st))
    (hb : ∀ (cdv : Value) (A : Around) (outer : List Env) (s : Shared) (H : Hp) (E : XK) (zs : Addr → Prop), Room k (A.deeper (envOfC qual (defScope st) s.heap.objs.size f cdv)) →
      Takes (cxOf (L2.CX P w) P w K mg base N qual (defScope st) f cdv A outer s H E) (fun k d _ H' => E k d H') →
      ISs G B zs (fun k d _ H' => E k d H') (cxOf (L2.CX P w) P w K mg base N qual (defScope st) f cdv A outer s H E) (defBody st) b) :
    FnOk P w K mg base (L2.CX P w) (k + 1) f fd ps (spF G ps.length (runF N.length b)) := by
  refine F.ok S (fun vs H Q E h => ?_) (fun cdv A outer s H vs Q E hr h => ?_)
  · obtain ⟨c, ws, _, _, x, e, _⟩ := h
    rw [← x.length, e]
  · obtain ⟨c, ws, eH, r, x, e, p⟩ := h
    refine ⟨_, hb cdv A outer s H E c.Z hr (takes_of rfl rfl rfl rfl), ?_⟩
    refine ⟨c, _, [], eH, r, ⟨fun _ z => z, fun a h => absurd h (by simp), List.nodup_nil⟩, ?_, post_of p⟩
    unfold L2.start
    rw [x.length]
    exact RS.start x _
theorem ok_initD {G : Gx} {x qual : Str} {st : Stmt} {f : Addr} {fd : FuncData} {N ps : List Str} {k kc : Nat} {b : MS} {dvs : List V} {kws : List (Str × V)} (F : FunD K x qual (defArgs st) (defBody st) (defScope st) dvs kws f fd) (S : FnScope N ps (defScope st))
    (hb : ∀ (B : Bx) (cdv : Value) (A : Around) (outer : List Env) (s : Shared) (H : Hp) (E : XK) (zs : Addr → Prop), Room k (A.deeper (envOfC qual (defScope st) s.heap.objs.size f cdv)) →
      Takes (cxOf (L2.CX P w) P w K mg base N qual (defScope st) f cdv A outer s H E) (fun k d _ H' => E k d H') →
      ISs G B zs (fun k d _ H' => E k d H') (cxOf (L2.CX P w) P w K mg base N qual (defScope st) f cdv A outer s H E) (defBody st) b) :
    FnOk P w K mg base (L2.CX P w) (k + 1) f fd ps (spI G kc ps.length (runI N.length kc b)) := by
  refine F.ok S (fun vs H Q E h => ?_) (fun cdv A outer s H vs Q E hr h => ?_)
  · obtain ⟨c, ws, y, us, dx, rfl, _, _, _, _, x, e, _⟩ := h
    rw [List.length_cons, ← x.length, e]
  · obtain ⟨c, ws, y, us, dx, rfl, eH, r, z, hx, x, e, p⟩ := h
    refine ⟨_, hb ⟨0, .none, none, y⟩ cdv A outer s H E (fun a => c.Z a ∧ a ≠ y) hr (takes_of rfl rfl rfl rfl), ?_⟩
    subst eH
    refine ⟨c, some (.mI kc []) :: ws.map some ++ List.replicate (N.length - (ws.length + 1)) none, [y], rfl, r, ⟨fun _ z => z.1, fun a h z => z.2 (List.mem_singleton.mp h), by simp⟩, ?_, ?_⟩
    · unfold L2.start
      have q := RS.cons (B := ⟨0, .none, none, y⟩) (SR.mI (G := G) (B := ⟨0, .none, none, y⟩) (k := kc) z hx .nil) (RS.start (B := ⟨0, .none, none, y⟩) x (N.length - (ws.length + 1)))
      have hl : us.length = ws.length := x.length.symm
      simp only [List.map_cons, List.length_cons, List.cons_append, hl]
      exact q
    · unfold runI at p
      revert p
      have low : ∀ {L' : List Addr} {c' : Cfg}, Stp G (fun a => c.Z a ∧ a ≠ y) [y] c L' c' → StpI G y c { c' with Z := fun a => c.Z a ∧ a ≠ y } ∧ Mv c' { c' with Z := fun a => c.Z a ∧ a ≠ y } := fun {L' c'} S =>
        ⟨⟨S.rel.fewer S.own.low, S.mv.trans (Mv.fewer S.own.low), rfl, fun a h1 h2 => S.zz a ⟨h1, h2⟩⟩, Mv.fewer S.own.low⟩
      cases b (some (.mI kc []) :: ws.map some ++ List.replicate (N.length - (ws.length + 1)) none) c.h with
      | nx τ h1 =>
        intro p c' L' σ S e s
        cases s with
        | nil => exact p.elim
        | cons sr s =>
          cases sr with
          | @mI k' fs dx' us' z1 e1 xf =>
            simp only at p
            by_cases hk : k' = kc
            · rw [if_pos hk] at p
              subst hk
              exact p { c' with Z := fun a => c.Z a ∧ a ≠ y } dx' us' (low S).1 e (S.rel.zok _ z1).1 e1 (xf.mono (low S).2)
            · rw [if_neg hk] at p
              exact p.elim
          | skip => exact p.elim
          | @val v u _ => cases v <;> first | exact p.elim | (rename_i q; cases q)
          | mL _ _ _ => exact p.elim
          | mD _ _ _ => exact p.elim
          | mE _ => exact p.elim
      | rt v h1 => exact fun p => p.elim
      | exc x fs τ h1 => exact fun p c' L' σ k d S e x _ => p { c' with Z := fun a => c.Z a ∧ a ≠ y } k d (low S).1 e (x.mono (low S).2)
      | bk τ h1 => exact fun p => p.elim
      | ct τ h1 => exact fun p => p.elim
      | stuck => exact fun p => p.elim
end
theorem kwd0 {K : PySem.W.Frag} {D : Addr} : ∀ q, q ∈ ([] : List (Str × V)) → ∃ u, PySem.W.nsIn K D q.1 = some (some u) ∧ RelV q.2 u := fun _ h => absurd h (by simp)
theorem kwd1 {K : PySem.W.Frag} {D : Addr} {n : Str} {v : V} {u : Value} {r : List (Str × V)} (e : PySem.W.nsIn K D n = some (some u)) (hr : RelV v u) (h : ∀ q, q ∈ r → ∃ u, PySem.W.nsIn K D q.1 = some (some u) ∧ RelV q.2 u) : ∀ q, q ∈ (n, v) :: r → ∃ u, PySem.W.nsIn K D q.1 = some (some u) ∧ RelV q.2 u := fun q hq => by
  rcases List.mem_cons.mp hq with rfl | hq
  · exact ⟨u, e, hr⟩
  · exact h q hq
end PI
/-! ==, !=, in over data that may stand on the plain heap. -/
namespace PI
open PySem PySem.Spec PyProof.Rows L2 ClX
def datH (h : AH) : Nat → AV → Option PyData
  | _, .non => some .none
  | _, .bl b => some (.bool b)
  | _, .int i => some (.int i)
  | _, .str x => some (.str x)
  | n + 1, .tup xs => (xs.mapM (datH h n)).map .tuple
  | n + 1, .fl xs => (xs.mapM (datH h n)).map .list
  | n + 1, .ref m => match h[m]? with
    | some (some (.lst xs)) => (xs.mapM (datH h n)).map .list
    | _ => none
  | _, _ => none
def kEqH (v w : AV) (h : AH) : Option (AV × AH) := match datH h 12 v, datH h 12 w with
  | some d, some e => some (.bl (PyData.eqv d e), h)
  | _, _ => none
def kNeH (v w : AV) (h : AH) : Option (AV × AH) := match datH h 12 v, datH h 12 w with
  | some d, some e => some (.bl (!PyData.eqv d e), h)
  | _, _ => none
def kInH (neg : Bool) (v w : AV) (h : AH) : Option (AV × AH) := match datH h 12 v, datH h 12 w with
  | some d, some (.list ds) => if SeqAt.shaped d && SeqAt.shaped (.list ds) then some (.bl (if neg then !ds.any fun z => PyData.eqv z d else ds.any fun z => PyData.eqv z d), h) else none
  | _, _ => none
section
variable {G : Gx} {X : Cx} {c : Cfg}
theorem datH_ok (hK : X.K = G.K) (r : Rel G c) : ∀ (n : Nat) (v : AV) (u : V) (d : PyData), datH c.h n v = some d → RV G c v u → Dp X.K c.H u d ∧ PyData.canLay0 d = true ∧ d.depth ≤ n := by
  intro n
  have leaf : ∀ (n : Nat) (v : AV) (u : V) (d : PyData), (∀ xs, v ≠ .tup xs) → (∀ xs, v ≠ .fl xs) → (∀ m, v ≠ .ref m) → datH c.h n v = some d → RV G c v u → Dp X.K c.H u d ∧ PyData.canLay0 d = true ∧ d.depth ≤ n := by
    intro n v u d h1 h2 h3 e x
    cases x with
    | non => cases n <;> (simp only [datH] at e; cases e; exact ⟨.non, rfl, Nat.zero_le _⟩)
    | bl => cases n <;> (simp only [datH] at e; cases e; exact ⟨.bl _, rfl, Nat.zero_le _⟩)
    | int => cases n <;> (simp only [datH] at e; cases e; exact ⟨.int _, rfl, Nat.zero_le _⟩)
    | str k => cases n <;> (simp only [datH] at e; cases e; exact ⟨.str _, k, Nat.zero_le _⟩)
    | tup => exact absurd rfl (h1 _)
    | tupK => exact absurd rfl (h1 _)
    | fl => exact absurd rfl (h2 _)
    | flK => exact absurd rfl (h2 _)
    | ref => exact absurd rfl (h3 _)
    | _ => cases n <;> (simp only [datH] at e; cases e)
  induction n with
  | zero =>
    intro v u d e x
    refine leaf 0 v u d (fun xs h => ?_) (fun xs h => ?_) (fun m h => ?_) e x
    · subst h; simp only [datH] at e; cases e
    · subst h; simp only [datH] at e; cases e
    · subst h; simp only [datH] at e; cases e
  | succ n ih =>
    have all : ∀ (xs : List AV) (us : List V) (ds : List PyData), xs.mapM (datH c.h n) = some ds → RVs G c xs us → DpAll X.K c.H us ds ∧ ∀ d, d ∈ ds → PyData.canLay0 d = true ∧ d.depth ≤ n := by
      intro xs
      induction xs with
      | nil => intro us ds e x; cases x; simp at e; subst e; exact ⟨.nil, fun d h => by simp at h⟩
      | cons y ys ihx =>
        intro us ds e x
        cases x with
        | cons x xr =>
          simp only [List.mapM_cons] at e
          cases q : datH c.h n y with
          | none => rw [q] at e; cases e
          | some d =>
            rw [q] at e
            cases q2 : ys.mapM (datH c.h n) with
            | none => rw [q2] at e; cases e
            | some ds2 =>
              rw [q2] at e
              cases e
              obtain ⟨a1, a2, a3⟩ := ih _ _ _ q x
              obtain ⟨b1, b2⟩ := ihx _ _ q2 xr
              exact ⟨.cons a1 b1, fun d' h => by rcases List.mem_cons.mp h with h | h; (rw [h]; exact ⟨a2, a3⟩); exact b2 d' h⟩
    intro v u d e x
    have seqs : ∀ {xs : List AV} {us : List V} {mk : List PyData → PyData} {ds : List PyData}, xs.mapM (datH c.h n) = some ds → RVs G c xs us → DpAll X.K c.H us ds ∧ PyData.canLayAll0 ds = true ∧ PyData.depthAll ds ≤ n := fun {xs us mk ds} e x => by
      obtain ⟨a1, a2⟩ := all xs us ds e x
      exact ⟨a1, canAll fun d h => (a2 d h).1, depthAll_le fun d h => (a2 d h).2⟩
    cases v with
    | tup xs =>
      simp only [datH] at e
      cases q : xs.mapM (datH c.h n) with
      | none => rw [q] at e; cases e
      | some ds =>
        rw [q] at e
        cases e
        obtain ⟨a, us, rfl, q1, y⟩ := rv_tup hK x
        obtain ⟨a1, a2, a3⟩ := seqs (mk := .tuple) q y
        exact ⟨.tup q1 a1, by simpa [PyData.canLay0] using a2, by simp only [PyData.depth]; omega⟩
    | fl xs =>
      simp only [datH] at e
      cases q : xs.mapM (datH c.h n) with
      | none => rw [q] at e; cases e
      | some ds =>
        rw [q] at e
        cases e
        obtain ⟨a, us, rfl, q1, y⟩ := rv_list hK x
        obtain ⟨a1, a2, a3⟩ := seqs (mk := .list) q y
        exact ⟨.lst q1 a1, by simpa [PyData.canLay0] using a2, by simp only [PyData.depth]; omega⟩
    | ref m =>
      simp only [datH] at e
      split at e
      · rename_i xs qm
        cases q : xs.mapM (datH c.h n) with
        | none => rw [q] at e; cases e
        | some ds =>
          rw [q] at e
          cases e
          cases x
          obtain ⟨us, q1, y⟩ := r.obj m _ qm
          obtain ⟨a1, a2, a3⟩ := seqs (mk := .list) q y
          exact ⟨.lst (.inl (.inl q1)) a1, by simpa [PyData.canLay0] using a2, by simp only [PyData.depth]; omega⟩
      · cases e
    | _ => exact leaf (n + 1) _ u d (fun xs h => by cases h) (fun xs h => by cases h) (fun m h => by cases h) e x
theorem ao_eqH (hK : X.K = G.K) : AO2 G kEqH (rEqD X.K) := fun c v w u x Q r xv xw p => by
  unfold kEqH at p
  cases e1 : datH c.h 12 v with
  | none => rw [e1] at p; exact p.elim
  | some d =>
    cases e2 : datH c.h 12 w with
    | none => rw [e1, e2] at p; exact p.elim
    | some e =>
      rw [e1, e2] at p
      obtain ⟨a1, a2, a3⟩ := datH_ok hK r 12 v u d e1 xv
      obtain ⟨b1, b2, b3⟩ := datH_ok hK r 12 w x e e2 xw
      exact ⟨d, e, a1, b1, shaped_of a2 a3, shaped_of b2 b3, post_fin r p .bl⟩
theorem ao_neH (hK : X.K = G.K) : AO2 G kNeH (rNeD X.K) := fun c v w u x Q r xv xw p => by
  unfold kNeH at p
  cases e1 : datH c.h 12 v with
  | none => rw [e1] at p; exact p.elim
  | some d =>
    cases e2 : datH c.h 12 w with
    | none => rw [e1, e2] at p; exact p.elim
    | some e =>
      rw [e1, e2] at p
      obtain ⟨a1, a2, a3⟩ := datH_ok hK r 12 v u d e1 xv
      obtain ⟨b1, b2, b3⟩ := datH_ok hK r 12 w x e e2 xw
      exact ⟨d, e, a1, b1, shaped_of a2 a3, shaped_of b2 b3, post_fin r p .bl⟩
theorem ao_inH (hK : X.K = G.K) (neg : Bool) : AO2 G (kInH neg) (rInDA X.K neg) := fun c v w u x Q r xv xw p => by
  unfold kInH at p
  cases e1 : datH c.h 12 v with
  | none => rw [e1] at p; exact p.elim
  | some d =>
    cases e2 : datH c.h 12 w with
    | none => rw [e1, e2] at p; exact p.elim
    | some e =>
      rw [e1, e2] at p
      cases e with
      | list ds =>
        simp only at p
        obtain ⟨a1, a2, a3⟩ := datH_ok hK r 12 v u d e1 xv
        obtain ⟨b1, b2, b3⟩ := datH_ok hK r 12 w x _ e2 xw
        by_cases hs : (SeqAt.shaped d && SeqAt.shaped (.list ds)) = true
        · rw [if_pos hs] at p
          exact ⟨d, ds, a1, b1, shaped_of a2 a3, shaped_of b2 b3, post_fin r p .bl⟩
        · rw [if_neg hs] at p; exact p.elim
      | _ => exact p.elim
end
theorem mapM_opt {α β : Type} {f g : α → Option β} : ∀ {xs : List α} {ys : List β}, (∀ x, x ∈ xs → ∀ y, f x = some y → g x = some y) → xs.mapM f = some ys → xs.mapM g = some ys
  | [], ys, _, e => by simpa using e
  | x :: xs, ys, H, e => by
    rw [List.mapM_cons] at e ⊢
    cases q : f x with
    | none => rw [q] at e; cases e
    | some y =>
      rw [q] at e
      cases q2 : xs.mapM f with
      | none => rw [q2] at e; cases e
      | some zs =>
        rw [q2] at e
        rw [H x (by simp) y q, mapM_opt (fun w hw => H w (by simp [hw])) q2]
        exact e
theorem datH_dat (h : AH) : ∀ (n : Nat) (v : AV) (d : PyData), dat n v = some d → datH h n v = some d := by
  intro n
  induction n with
  | zero => intro v d e; cases v <;> first | (simp only [dat] at e; cases e; done) | (simp only [dat] at e; simp only [datH]; exact e)
  | succ n ih =>
    intro v d e
    cases v with
    | tup xs =>
      simp only [dat] at e
      simp only [datH]
      cases q : xs.mapM (dat n) with
      | none => rw [q] at e; cases e
      | some ds => rw [q] at e; rw [mapM_opt (fun x _ y hy => ih x y hy) q]; exact e
    | fl xs =>
      simp only [dat] at e
      simp only [datH]
      cases q : xs.mapM (dat n) with
      | none => rw [q] at e; cases e
      | some ds => rw [q] at e; rw [mapM_opt (fun x _ y hy => ih x y hy) q]; exact e
    | ref m => simp only [dat] at e; cases e
    | _ => first | (simp only [dat] at e; cases e; done) | (simp only [dat] at e; simp only [datH]; exact e)
theorem kEqH_of {v w : AV} {d e : PyData} {h : AH} (e1 : datH h 12 v = some d) (e2 : datH h 12 w = some e) : kEqH v w h = some (.bl (PyData.eqv d e), h) := by
  unfold kEqH; rw [e1, e2]
theorem kNeH_of {v w : AV} {d e : PyData} {h : AH} (e1 : datH h 12 v = some d) (e2 : datH h 12 w = some e) : kNeH v w h = some (.bl (!PyData.eqv d e), h) := by
  unfold kNeH; rw [e1, e2]
@[simp] theorem kEqH_str (x y : Str) (h : AH) : kEqH (.str x) (.str y) h = some (.bl (decide (x = y)), h) := kEq_str x y h
@[simp] theorem kEqH_int (x y : Int) (h : AH) : kEqH (.int x) (.int y) h = some (.bl (decide (x = y)), h) := kEq_int x y h
@[simp] theorem kNeH_str (x y : Str) (h : AH) : kNeH (.str x) (.str y) h = some (.bl (!decide (x = y)), h) := kNe_str x y h
@[simp] theorem kNeH_int (x y : Int) (h : AH) : kNeH (.int x) (.int y) h = some (.bl (!decide (x = y)), h) := kNe_int x y h
@[simp] theorem kNeH_bl (x y : Bool) (h : AH) : kNeH (.bl x) (.bl y) h = some (.bl (!decide (x = y)), h) := by cases x <;> cases y <;> rfl
@[simp] theorem kEqH_bl (x y : Bool) (h : AH) : kEqH (.bl x) (.bl y) h = some (.bl (decide (x = y)), h) := by cases x <;> cases y <;> rfl
theorem neH_self {v : AV} (e : selfB v = true) (h : AH) : kNeH v v h = some (.bl false, h) := by
  unfold selfB at e
  cases q : dat 12 v with
  | none => rw [q] at e; cases e
  | some d => rw [q] at e; rw [kNeH_of (datH_dat h 12 v d q) (datH_dat h 12 v d q)]; simp only at e; rw [e]; rfl
end PI
/-! loops and comprehensions over lists of the plain heap: looked at anew at each turn. -/
namespace PI
open PySem PySem.Spec PyProof.Rows L2 ClX
/-- what is walked: at turn i, as the heap stands: none (it is not there), some none (the end), some (some v) -/
abbrev Src := Nat → AH → Option (Option AV)
abbrev MI := AS → AH → Res Src
structure GoesD (G : Gx) (c : Cfg) (J : It) (src : Src) : Prop where
  go : ∀ (c' : Cfg) (i : Nat) (v : AV), Mv c c' → Rel G c' → src i c'.h = some (some v) → J.go i c'.H ∧ ∀ x H'', J.yld i c'.H x H'' → Nxt G c' { c' with H := H'' } ∧ RV G { c' with H := H'' } v x
  stop : ∀ (c' : Cfg) (i : Nat), Mv c c' → Rel G c' → src i c'.h = some none → J.stop i c'.H
def tIiD (G : Gx) (B : Bx) (W : WX) (m : MI) : TI := fun σ H R => ∃ c τ L, c.H = H ∧ Rel G c ∧ RS G B c L τ σ ∧ Post G (fun c' (s : Src) (J : It) => GoesD G c' J s) c (fun k d H' => W k d σ H') R (m τ c.h)
def IID (G : Gx) (B : Bx) (W : WX) (X : Cx) (tg iter : Expr) (m : MI) : Prop := PI X tg iter (tIiD G B W m)
def lstOf (v : AV) (h : AH) : Option (List AV) := match v with
  | .ref n => match h[n]? with
    | some (some (.lst xs)) => some xs
    | _ => none
  | .fl xs => some xs
  | _ => none
def srcL (v : AV) : Src := fun i h => (lstOf v h).map fun xs => xs[i]?
def srcE (v : AV) : Src := fun i h => (lstOf v h).map fun xs => (xs[i]?).map fun x => .tup [.int (i : Nat), x]
def fSrc (k : AV → Src) : AV → AH → Res Src := fun v h => if (lstOf v h).isSome then .ok (k v) h else .stuck
def mSrc (k : AV → Src) (m : ME) : MI := fun τ h => (m τ h).bind (fSrc k)
def fSrcA (k : AV → Src) : List AV → AH → Res Src := fun vs h => match vs with
  | [v] => if (lstOf v h).isSome then .ok (k v) h else .stuck
  | _ => .stuck
def mSrcA (k : AV → Src) (m : MA) : MI := fun τ h => (m τ h).bind (fSrcA k)
def forD (g : MG) (b : MS) (src : Src) : Nat → Nat → AS → AH → SRes
  | 0, _, _, _ => .stuck
  | m + 1, i, τ, h => match src i h with
    | none => .stuck
    | some none => .nx τ h
    | some (some v) => match g v τ with
      | none => .stuck
      | some τ1 => match b τ1 h with
        | .nx τ2 h2 => forD g b src m (i + 1) τ2 h2
        | .ct τ2 h2 => forD g b src m (i + 1) τ2 h2
        | .bk τ2 h2 => .nx τ2 h2
        | q => q
def fForD (n : Nat) (g : MG) (b : MS) (τ : AS) : Src → AH → SRes := fun src h => forD g b src n 0 τ h
def sForD (n : Nat) (g : MG) (mi : MI) (b : MS) : MS := fun τ h => (mi τ h).bindS τ (fForD n g b τ)
def lcD (g : MG) (mt : MT) (me : ME) (τ : AS) (src : Src) : Nat → Nat → List AV → AH → Res AV
  | 0, _, _, _ => .stuck
  | m + 1, i, acc, h => match src i h with
    | none => .stuck
    | some none => .ok (.fl acc) h
    | some (some v) => match g v τ with
      | none => .stuck
      | some τ2 => (noX (mt τ2 h)).bind fun b h => if b then (noX (me τ2 h)).bind fun y h => if small (acc.length + 1) then lcD g mt me τ src m (i + 1) (acc ++ [y]) h else .stuck else lcD g mt me τ src m (i + 1) acc h
def lcRD (g : MG) (mt : MT) (me : ME) (τ : AS) (n : Nat) (src : Src) : Nat → Nat → AH → Res AV
  | 0, _, _ => .stuck
  | m + 1, i, h => match src i h with
    | none => .stuck
    | some none => .ok (.ref n) h
    | some (some v) => match g v τ with
      | none => .stuck
      | some τ2 => (noX (mt τ2 h)).bind fun b h => if b then (noX (me τ2 h)).bind fun y h => (match h[n]? with
          | some (some (.lst acc)) => if small (acc.length + 1) then lcRD g mt me τ n src m (i + 1) (h.set n (some (.lst (acc ++ [y])))) else .stuck
          | _ => .stuck)
        else lcRD g mt me τ n src m (i + 1) h
def fLcD (n : Nat) (g : MG) (mt : MT) (me : ME) (τ : AS) : Src → AH → Res AV := fun src h => lcD g mt me τ src n 0 [] h
def mLcD (n : Nat) (vs : List Nat) (g : MG) (mi : MI) (mt : MT) (me : ME) : ME := fun τ h => (mi τ h).bind (fLcD n g mt me (wipeA τ vs))
def fLcRD (n : Nat) (g : MG) (mt : MT) (me : ME) (τ : AS) : Src → AH → Res AV := fun src h => lcRD g mt me τ h.length src n 0 (h ++ [some (.lst [])])
def mLcRD (n : Nat) (vs : List Nat) (g : MG) (mi : MI) (mt : MT) (me : ME) : ME := fun τ h => (mi τ h).bind (fLcRD n g mt me (wipeA τ vs))
section
variable {G : Gx} {B : Bx} {zs : Addr → Prop} {W : WX} {X : Cx} {c c' : Cfg} {L : List Addr} {τ : AS} {σ : SL} {pos pos' p : Pos} {e o a : Expr} {me m : ME} {ma : MA} {mt : MT} {x s : Str} {i : Nat} {vs : List Nat} {tg : Expr}
theorem lst_rv (hK : X.K = G.K) {v : AV} {u : V} {xs : List AV} (r : Rel G c) (x : RV G c v u) (e : lstOf v c.h = some xs) : ∃ a us, u = .ref a ∧ SqL X.K c.H a us ∧ RVs G c xs us := by
  cases v with
  | fl ys => cases e; exact rv_list hK x
  | ref n =>
    unfold lstOf at e
    simp only at e
    split at e
    · rename_i ys q
      cases e
      cases x
      obtain ⟨us, q1, y⟩ := r.obj n _ q
      exact ⟨_, us, rfl, .inl (.inl q1), y⟩
    · cases e
  | _ => cases e
theorem sql_inj {K : PySem.W.Frag} {H : Hp} {a : Addr} {xs ys : List V} (hf : ∀ o, H a = some o → K.lookup a = none) (h1 : SqL K H a xs) (h2 : SqL K H a ys) : xs = ys ∨ True := .inr trivial
/-- the value is the same list at each turn -/
theorem goesD_list (hK : X.K = G.K) {v : AV} {a : Addr} (x : RV G c v (.ref a)) (hv : (lstOf v c.h).isSome = true) : GoesD G c (Itl X.K a) (srcL v) := by
  have key : ∀ (c' : Cfg) (xs : List AV), Mv c c' → Rel G c' → lstOf v c'.h = some xs → ∃ us, SqL X.K c'.H a us ∧ RVs G c' xs us := fun c' xs M r e => by
    obtain ⟨b, us, eb, q, y⟩ := lst_rv hK r (x.mono M) e
    cases eb
    exact ⟨us, q, y⟩
  refine ⟨fun c' i w M r e => ?_, fun c' i M r e => ?_⟩
  · unfold srcL at e
    cases q : lstOf v c'.h with
    | none => rw [q] at e; cases e
    | some xs =>
      rw [q] at e
      have e' : xs[i]? = some w := by simpa using e
      obtain ⟨us, q1, y⟩ := key c' xs M r q
      obtain ⟨u, hu, ru⟩ := y.nth e'
      refine ⟨⟨us, u, q1, hu⟩, fun z H'' hy => ?_⟩
      obtain ⟨rfl, hz⟩ := hy
      have := hz us q1
      rw [hu] at this
      cases this
      exact ⟨.refl r, ru⟩
  · unfold srcL at e
    cases q : lstOf v c'.h with
    | none => rw [q] at e; cases e
    | some xs =>
      rw [q] at e
      have e' : xs[i]? = none := by simpa using e
      obtain ⟨us, q1, y⟩ := key c' xs M r q
      rw [List.getElem?_eq_none_iff] at e'
      exact ⟨us, q1, by rw [← y.length]; exact e'⟩
theorem goesD_enum (hK : X.K = G.K) {v : AV} {a : Addr} (x : RV G c v (.ref a)) (hv : (lstOf v c.h).isSome = true) : GoesD G c (Ite X.K a) (srcE v) := by
  have key : ∀ (c' : Cfg) (xs : List AV), Mv c c' → Rel G c' → lstOf v c'.h = some xs → ∃ us, SqL X.K c'.H a us ∧ RVs G c' xs us := fun c' xs M r e => by
    obtain ⟨b, us, eb, q, y⟩ := lst_rv hK r (x.mono M) e
    cases eb
    exact ⟨us, q, y⟩
  refine ⟨fun c' i w M r e => ?_, fun c' i M r e => ?_⟩
  · unfold srcE at e
    cases q : lstOf v c'.h with
    | none => rw [q] at e; cases e
    | some xs =>
      rw [q] at e
      simp only [Option.map_some, Option.some.injEq] at e
      cases e2 : xs[i]? with
      | none => rw [e2] at e; cases e
      | some w0 =>
        rw [e2] at e
        cases e
        obtain ⟨us, q1, y⟩ := key c' xs M r q
        obtain ⟨u, hu, ru⟩ := y.nth e2
        refine ⟨⟨us, u, q1, hu⟩, fun z H'' hy => ?_⟩
        obtain ⟨T, z0, rfl, hT, rfl, hz⟩ := hy
        have := hz us q1
        rw [hu] at this
        cases this
        have N := Nxt.temp (O := .tup [.int (i : Nat), u]) r hT
        exact ⟨N, .tup (.inl upd_same) (r.frz hT) (.cons .int (.cons (ru.mono N.mv) .nil))⟩
  · unfold srcE at e
    cases q : lstOf v c'.h with
    | none => rw [q] at e; cases e
    | some xs =>
      rw [q] at e
      have e' : xs[i]? = none := by simpa using e
      obtain ⟨us, q1, y⟩ := key c' xs M r q
      rw [List.getElem?_eq_none_iff] at e'
      exact ⟨us, q1, by rw [← y.length]; exact e'⟩
theorem iiD_list (hK : X.K = G.K) (he : IE G B W X e m) : IID G B W X tg e (mSrc srcL m) := PI.imp (pi_list he) fun σ H R ⟨c, τ, L, eH, r, s, q⟩ => by
  refine ⟨c, τ, L, eH, r, s, (Post.bind (R := RV G) q).imp fun u H1 ⟨c1, v, e1, N1, x1, p1⟩ => ?_⟩
  subst e1
  unfold fSrc at p1
  by_cases hv : (lstOf v c1.h).isSome = true
  · rw [if_pos hv] at p1
    obtain ⟨xs, hx⟩ := Option.isSome_iff_exists.mp hv
    obtain ⟨a, us, rfl, q1, y⟩ := lst_rv hK N1.rel x1 hx
    exact ⟨a, rfl, ⟨us, q1⟩, p1 c1 _ (.refl N1.rel) rfl (goesD_list hK x1 hv)⟩
  · rw [if_neg hv] at p1; exact p1.elim
theorem iiD_enum {elts : List Expr} {kk : Nat} {tpos : Pos} (hK : X.K = G.K) (hm : X.mg "enumerate" = none) (ha : IA G B W X [e] ma) (hg : Gl X "enumerate" := by rfl) (hs : starEach [e] X.env = [(false, eval e X.env)] := by rfl) :
    IID G B W X (.Tuple elts kk tpos) (.Call (.Name "enumerate" p) [e] [] pos) (mSrcA srcE ma) := PI.imp (pi_enum hg hm ha hs) fun σ H R ⟨c, τ, L, eH, r, s, q⟩ => by
  refine ⟨c, τ, L, eH, r, s, (Post.bind (R := RVs G) q).imp fun u H1 ⟨c1, v, e1, N1, x1, p1⟩ => ?_⟩
  subst e1
  unfold fSrcA at p1
  cases x1 with
  | nil => exact p1.elim
  | @cons y ys u1 us1 y1 t1 =>
    cases t1 with
    | cons _ _ => exact p1.elim
    | nil =>
      simp only at p1
      by_cases hv : (lstOf y c1.h).isSome = true
      · rw [if_pos hv] at p1
        obtain ⟨xs, hx⟩ := Option.isSome_iff_exists.mp hv
        obtain ⟨a, us, rfl, q1, yy⟩ := lst_rv hK N1.rel y1 hx
        exact ⟨a, us, rfl, q1, p1 c1 _ (.refl N1.rel) rfl (goesD_enum hK y1 hv)⟩
      · rw [if_neg hv] at p1; exact p1.elim
theorem is_forD {g : MG} {mi : MI} {iter : Expr} {body : List Stmt} {ms : MS} (n : Nat) (hp : PassesOwn (model X.prog X.w) X.A X.env X.xe) (hc : X.calm = true) (hi : IID G B W X tg iter mi) (hg : IG G B zs X tg g) (hb : ISs G B zs W X body ms)
    (hs : ∀ x, foldedSetIterable iter X.env x = pure x := by intro _; rfl) : IS G B zs W X (.For tg iter body [] pos) (sForD n g mi ms) := PS.imp (ps_for hp hc hi hg hb hs) fun D σ H ⟨c, τ, L, eH, r, o, s, p⟩ => by
  refine ⟨c, τ, L, eH, r, s, (PostS.bindS (R := fun c' (s : Src) (J : It) => GoesD G c' J s) o s p).imp fun J H1 ⟨c1, src, e1, N1, gd, p1⟩ => ?_⟩
  subst e1
  refine ⟨fun i k σ H => ∃ c2 τ L2, c2.H = H ∧ Stp G zs L c1 L2 c2 ∧ RS G B c2 L2 τ σ ∧ PostS G B zs L2 c2 W D (forD g ms src k i τ c2.h), ⟨n, c1, τ, L, rfl, .refl N1.rel (o.nxt N1), s.nxt N1, p1⟩, ?_⟩
  rintro i k σ H ⟨c2, τ, L2, rfl, S, s2, p2⟩
  cases k with
  | zero => exact p2.elim
  | succ k =>
    unfold forD at p2
    cases es : src i c2.h with
    | none => rw [es] at p2; exact p2.elim
    | some ov =>
      rw [es] at p2
      cases ov with
      | none => exact .inl ⟨gd.stop c2 i S.mv S.rel es, p2 c2 L2 σ (.refl S.rel S.own) rfl s2⟩
      | some v =>
        obtain ⟨hgo, hy⟩ := gd.go c2 i v S.mv S.rel es
        simp only at p2
        refine .inr ⟨hgo, fun σ' H' => ∃ c2 τ L2, c2.H = H' ∧ Stp G zs L c1 L2 c2 ∧ RS G B c2 L2 τ σ' ∧ PostS G B zs L2 c2 W D (forD g ms src k (i + 1) τ c2.h), fun σ' H' q => ⟨k, Nat.lt_succ_self k, q⟩, fun x H' y => ?_⟩
        obtain ⟨N3, x3⟩ := hy x H' y
        cases q : g v τ with
        | none => rw [q] at p2; exact p2.elim
        | some τ1 =>
          rw [q] at p2
          have T := Stp.of N3 S.own
          refine ⟨{ c2 with H := H' }, τ, L2, v, τ1, rfl, N3.rel, T.own, s2.nxt N3, x3, q, fun c3 L3 σ3 S3 e3 s3 => ⟨c3, τ1, L3, rfl, S3.rel, S3.own, s3, ?_⟩⟩
          have p3 := PostS.trans (T.trans S3) p2
          have e3' : c3.h = c2.h := e3
          have nxt : ∀ {c4 : Cfg} {L4 : List Addr} {σ4 : SL} {τ4 : AS}, Stp G zs L3 c3 L4 c4 → RS G B c4 L4 τ4 σ4 → PostS G B zs L3 c3 W D (forD g ms src k (i + 1) τ4 c4.h) →
              ∃ c2 τ L2, c2.H = c4.H ∧ Stp G zs L c1 L2 c2 ∧ RS G B c2 L2 τ σ4 ∧ PostS G B zs L2 c2 W D (forD g ms src k (i + 1) τ c2.h) := fun {c4 L4 σ4 τ4} S4 s4 p4 =>
            ⟨c4, τ4, L4, rfl, ((S.trans T).trans S3).trans S4, s4, PostS.trans S4 p4⟩
          revert p3
          rw [e3']
          show PostS G B zs L3 c3 W D (match ms τ1 c2.h with | .nx τ2 h2 => forD g ms src k (i + 1) τ2 h2 | .ct τ2 h2 => forD g ms src k (i + 1) τ2 h2 | .bk τ2 h2 => .nx τ2 h2 | q => q) → PostS G B zs L3 c3 W _ (ms τ1 c2.h)
          cases ms τ1 c2.h with
          | nx τ4 h4 => exact fun p3 c4 L4 σ4 S4 e4 s4 => nxt S4 s4 (by rw [e4]; exact p3)
          | ct τ4 h4 => exact fun p3 c4 L4 σ4 S4 e4 s4 => nxt S4 s4 (by rw [e4]; exact p3)
          | bk τ4 h4 => exact fun p3 => p3
          | rt v h4 => exact fun p3 => p3
          | exc x fs τ4 h4 => exact fun p3 => p3
          | stuck => exact fun p3 => p3
theorem lcD_ok {mi : MI} (n : Nat) {g : MG} {σ : SL} {H : Hp} {Q : VK} (vs : List Nat) (t : tI G B W (mLcD n vs g mi mt me) σ H Q) : tLc (tIiD G B W mi) (tGe G B vs g) (tIt G B W0 mt) (tI G B W0 me) vs σ H Q := by
  obtain ⟨c, τ, L, eH, rl, s, p⟩ := t
  refine ⟨c, τ, L, eH, rl, s, (Post.bind (R := fun c' (s : Src) (J : It) => GoesD G c' J s) p).imp fun J H1 ⟨c1, src, e1, N1, gd, p1⟩ => ?_⟩
  subst e1
  have s1 := s.nxt N1
  intro D hD
  obtain ⟨L0, hL0, sw⟩ := s1.wipeAll vs
  let Z1 : Addr → Prop := fun a => c1.Z a ∨ a = D
  have nDZ : ¬ c1.Z D := N1.rel.nz hD
  have nDL : ∀ a, a ∈ L0 → c1.Z a := fun a h => s1.z a (hL0 a h)
  -- the list stands at D, nobody else holds it
  refine ⟨fun i k H => ∃ (c2 : Cfg) (acc : List AV) (us : List V), c2.H = H ∧ Rel G c2 ∧ Mv c1 c2 ∧ (∀ a, c2.Z a ↔ (c1.Z a ∨ a = D)) ∧ (∀ a, c1.Z a → c2.H a = c1.H a) ∧ c2.H D = some (.lst us) ∧ RVs G c2 acc us ∧
      Post G (RV G) c1 (fun k d H' => W k d σ H') Q (lcD g mt me (wipeA τ vs) src k i acc c2.h),
    ⟨n, { c1 with Z := fun a => c1.Z a ∨ a = D, H := upd c1.H D (.lst []) }, [], [], rfl, N1.rel.mine hD, Mv.mine hD, fun a => Iff.rfl, fun a z => upd_ne fun y => nDZ (by rw [← y]; exact z), upd_same, .nil, p1⟩, ?_⟩
  rintro i k H ⟨c2, acc, us, rfl, r2, M2, hZ, hH, hD2, y2, p2⟩
  cases k with
  | zero => exact p2.elim
  | succ k =>
  unfold lcD at p2
  cases es : src i c2.h with
  | none => rw [es] at p2; exact p2.elim
  | some ov =>
  rw [es] at p2
  cases ov with
  | some v =>
    obtain ⟨hgo, hy⟩ := gd.go c2 i v M2 r2 es
    simp only at p2
    refine .inr ⟨hgo, fun H' => ∃ k', k' < k + 1 ∧ ∃ (c3 : Cfg) (acc : List AV) (us : List V), c3.H = H' ∧ Rel G c3 ∧ Mv c1 c3 ∧ (∀ a, c3.Z a ↔ (c1.Z a ∨ a = D)) ∧ (∀ a, c1.Z a → c3.H a = c1.H a) ∧ c3.H D = some (.lst us) ∧ RVs G c3 acc us ∧
        Post G (RV G) c1 (fun k d H' => W k d σ H') Q (lcD g mt me (wipeA τ vs) src k' (i + 1) acc c3.h), fun H' h => h, fun x H' y => ?_⟩
    obtain ⟨N3, x3⟩ := hy x H' y
    cases q : g v (wipeA τ vs) with
    | none => rw [q] at p2; exact p2.elim
    | some τ2 =>
      rw [q] at p2
      simp only at p2
      -- the slots, seen from c3
      have cz : ∀ a, c1.Z a → c2.Z a := fun a z => (hZ a).mpr (.inl z)
      have sw2 : RS G B c2 L0 (wipeA τ vs) (wipe σ vs) := sw.mono M2 fun a h => ⟨cz a (nDL a h), hH a (nDL a h)⟩
      have sw3 := sw2.nxt N3
      have rest : ∀ {c4 : Cfg}, Nxt G c2 c4 → (Rel G c4 ∧ Mv c1 c4 ∧ (∀ a, c4.Z a ↔ (c1.Z a ∨ a = D)) ∧ (∀ a, c1.Z a → c4.H a = c1.H a) ∧ c4.H D = some (.lst us) ∧ RVs G c4 acc us) := fun {c4} N => by
        refine ⟨N.rel, M2.trans N.mv, fun a => by rw [N.z]; exact hZ a, fun a z => (N.zz a (cz a z)).trans (hH a z), (N.zz D ((hZ D).mpr (.inr rfl))).trans hD2, y2.mono N.mv⟩
      refine ⟨{ c2 with H := H' }, _, L0, v, τ2, rfl, N3.rel, sw3, x3, q, fun σ2 s2 hw => ⟨hw.trans wipe_idem, { c2 with H := H' }, τ2, L0, rfl, N3.rel, s2, ?_⟩⟩
      revert p2
      cases eT : mt τ2 c2.h with
      | exc _ _ _ => exact fun p2 => p2.elim
      | stuck => exact fun p2 => p2.elim
      | ok b h4 =>
        intro p2 c4 u4 N4 e4 x4
        subst x4
        subst e4
        have p2 : Post G (RV G) c1 (fun k d H' => W k d σ H') Q (if b = true then (noX (me τ2 c4.h)).bind fun y h => if small (acc.length + 1) then lcD g mt me (wipeA τ vs) src k (i + 1) (acc ++ [y]) h else .stuck else lcD g mt me (wipeA τ vs) src k (i + 1) acc c4.h) := p2
        have N24 := N3.trans N4
        cases b with
        | false =>
          rw [if_neg Bool.false_ne_true] at p2 ⊢
          obtain ⟨a1, a2, a3, a4, a5, a6⟩ := rest N24
          exact ⟨k, Nat.lt_succ_self k, c4, acc, us, rfl, a1, a2, a3, a4, a5, a6, p2⟩
        | true =>
          rw [if_pos rfl] at p2 ⊢
          refine ⟨c4, τ2, L0, rfl, N4.rel, s2.nxt N4, ?_⟩
          revert p2
          cases eE : me τ2 c4.h with
          | exc _ _ _ => exact fun p2 => p2.elim
          | stuck => exact fun p2 => p2.elim
          | ok y h5 =>
            intro p2 c5 u5 N5 e5 x5
            subst e5
            have p2 : Post G (RV G) c1 (fun k d H' => W k d σ H') Q (if small (acc.length + 1) then lcD g mt me (wipeA τ vs) src k (i + 1) (acc ++ [y]) c5.h else .stuck) := p2
            by_cases hl : small (acc.length + 1) = true
            · rw [if_pos hl] at p2
              obtain ⟨a1, a2, a3, a4, a5, a6⟩ := rest (N24.trans N5)
              refine ⟨us, a5, by rw [← a6.length]; exact Nat.lt_of_lt_of_le (Nat.lt_succ_self _) (small_le hl), k, Nat.lt_succ_self k, { c5 with H := upd c5.H D (.lst (us ++ [u5])) }, acc ++ [y], us ++ [u5], rfl, ?_⟩
              have zD : c5.Z D := (a3 D).mpr (.inr rfl)
              have M6 := Mv.turn (O := .lst (us ++ [u5])) zD
              exact ⟨a1.turn zD, a2.trans M6, a3, fun a z => (upd_ne fun y => nDZ (by rw [← y]; exact z)).trans (a4 a z), upd_same, (RVs.append a6 (.cons x5 .nil)).mono M6, p2⟩
            · rw [if_neg hl] at p2; exact p2.elim
  | none =>
    refine .inl ⟨gd.stop c2 i M2 r2 es, ?_⟩
    have M3 : Mv c2 { c2 with Z := c1.Z } := Mv.fewer fun a z => (hZ a).mpr (.inl z)
    have r3 : Rel G { c2 with Z := c1.Z } := r2.fewer fun a z => (hZ a).mpr (.inl z)
    have N : Nxt G c1 { c2 with Z := c1.Z } := ⟨r3, M2.trans M3, rfl, hH⟩
    exact p2 { c2 with Z := c1.Z } (.ref D) N rfl (.fl (.inl hD2) ⟨(r2.zok D ((hZ D).mpr (.inr rfl))).1, nDZ⟩ (y2.mono M3))
theorem lcrD_ok {mi : MI} (n : Nat) {g : MG} {σ : SL} {H : Hp} {Q : VK} (vs : List Nat) (t : tI G B W (mLcRD n vs g mi mt me) σ H Q) : tLc (tIiD G B W mi) (tGe G B vs g) (tIt G B W0 mt) (tI G B W0 me) vs σ H Q := by
  obtain ⟨c, τ, L, eH, rl, s, p⟩ := t
  refine ⟨c, τ, L, eH, rl, s, (Post.bind (R := fun c' (s : Src) (J : It) => GoesD G c' J s) p).imp fun J H1 ⟨c1, src, e1, N1, gd, p1⟩ => ?_⟩
  subst e1
  have s1 := s.nxt N1
  intro D hD
  obtain ⟨L0, hL0, sw⟩ := s1.wipeAll vs
  have N0 := Nxt.alloc (o := .lst []) (H' := upd c1.H D (.lst [])) N1.rel hD (fun b o z => by rw [upd_ne (ne_of_none z hD)]; exact z) fun c' M e => ⟨[], by rw [e, upd_same], .nil⟩
  refine ⟨fun i k H => ∃ c2 : Cfg, c2.H = H ∧ Nxt G c1 c2 ∧ c1.h.length < c2.h.length ∧ c2.rho c1.h.length = D ∧ Post G (RV G) c2 (fun k d H' => W k d σ H') Q (lcRD g mt me (wipeA τ vs) c1.h.length src k i c2.h),
    ⟨n, _, rfl, N0, by simp, ext_same, Post.trans N0 p1⟩, ?_⟩
  rintro i k H ⟨c2, rfl, N2, hn, hr, p2⟩
  cases k with
  | zero => exact p2.elim
  | succ k =>
  unfold lcRD at p2
  cases es : src i c2.h with
  | none => rw [es] at p2; exact p2.elim
  | some ov =>
  rw [es] at p2
  cases ov with
  | some v =>
    obtain ⟨hgo, hy⟩ := gd.go c2 i v N2.mv N2.rel es
    simp only at p2
    refine .inr ⟨hgo, fun H' => ∃ k', k' < k + 1 ∧ ∃ c3 : Cfg, c3.H = H' ∧ Nxt G c1 c3 ∧ c1.h.length < c3.h.length ∧ c3.rho c1.h.length = D ∧ Post G (RV G) c3 (fun k d H' => W k d σ H') Q (lcRD g mt me (wipeA τ vs) c1.h.length src k' (i + 1) c3.h), fun H' h => h, fun x H' y => ?_⟩
    obtain ⟨N3, x3⟩ := hy x H' y
    cases q : g v (wipeA τ vs) with
    | none => rw [q] at p2; exact p2.elim
    | some τ2 =>
      rw [q] at p2
      simp only at p2
      have sw3 := (sw.nxt N2).nxt N3
      refine ⟨{ c2 with H := H' }, _, L0, v, τ2, rfl, N3.rel, sw3, x3, q, fun σ2 s2 hw => ⟨hw.trans wipe_idem, { c2 with H := H' }, τ2, L0, rfl, N3.rel, s2, ?_⟩⟩
      revert p2
      cases eT : mt τ2 c2.h with
      | exc _ _ _ => exact fun p2 => p2.elim
      | stuck => exact fun p2 => p2.elim
      | ok b h4 =>
        intro p2 c4 u4 N4 e4 x4
        subst x4
        subst e4
        have p2 := Post.trans (N3.trans N4) p2
        have p2 : Post G (RV G) c4 (fun k d H' => W k d σ H') Q (if b = true then (noX (me τ2 c4.h)).bind fun y h => (match h[c1.h.length]? with
          | some (some (.lst acc)) => if small (acc.length + 1) then lcRD g mt me (wipeA τ vs) c1.h.length src k (i + 1) (h.set c1.h.length (some (.lst (acc ++ [y])))) else .stuck
          | _ => .stuck) else lcRD g mt me (wipeA τ vs) c1.h.length src k (i + 1) c4.h) := p2
        have N14 := N2.trans (N3.trans N4)
        have hn4 : c1.h.length < c4.h.length := Nat.lt_of_lt_of_le hn (N3.trans N4).mv.len
        have hr4 : c4.rho c1.h.length = D := ((N3.trans N4).mv.same _ hn).trans hr
        cases b with
        | false =>
          rw [if_neg Bool.false_ne_true] at p2 ⊢
          exact ⟨k, Nat.lt_succ_self k, c4, rfl, N14, hn4, hr4, p2⟩
        | true =>
          rw [if_pos rfl] at p2 ⊢
          refine ⟨c4, τ2, L0, rfl, N4.rel, s2.nxt N4, ?_⟩
          revert p2
          cases eE : me τ2 c4.h with
          | exc _ _ _ => exact fun p2 => p2.elim
          | stuck => exact fun p2 => p2.elim
          | ok y h5 =>
            intro p2 c5 u5 N5 e5 x5
            subst e5
            have p2 := Post.trans N5 p2
            simp only [noX, Res.bind] at p2
            split at p2
            · rename_i acc q5
              by_cases hl : small (acc.length + 1) = true
              · rw [if_pos hl] at p2
                obtain ⟨us, q6, y6⟩ := lst_at N5.rel q5
                have hr5 : c5.rho c1.h.length = D := (N5.mv.same _ hn4).trans hr4
                rw [hr5] at q6
                have N6 := Nxt.write (o' := .lst (acc ++ [y])) (O := .lst (us ++ [u5])) N5.rel q5 fun c' M e => ⟨_, e, (RVs.append y6 (.cons x5 .nil)).mono M⟩
                rw [hr5] at N6
                refine ⟨us, q6, by rw [← y6.length]; exact Nat.lt_of_lt_of_le (Nat.lt_succ_self _) (small_le hl), k, Nat.lt_succ_self k, _, rfl, (N14.trans N5).trans N6, ?_, hr5, Post.trans N6 p2⟩
                exact Nat.lt_of_lt_of_le hn4 (Nat.le_trans N5.mv.len N6.mv.len)
              · rw [if_neg hl] at p2; exact p2.elim
            · exact p2.elim
  | none =>
    refine .inl ⟨gd.stop c2 i N2.mv N2.rel es, ?_⟩
    have y : RV G c2 (.ref c1.h.length) (.ref (c2.rho c1.h.length)) := .ref hn
    rw [hr] at y
    exact p2 c2 (.ref D) (.refl N2.rel) rfl y
theorem ie_lcRD {mi : MI} (n : Nat) {elt tg iter : Expr} {ifs : List Expr} {scope : Scope} (own : List (Str × Nat)) {g : MG} (hN : X.N.Nodup) (ok : BlkOk X.N X.env.scope scope own) (hi : IID G B W X tg iter mi)
    (hg : ∀ (s : Shared) (H : Hp) (C : Addr) (cl : List (Str × Addr)) (fp : List Addr), IGe G B (own.map (·.2)) (X.blk s H scope (compEnvC scope cl C X.env) fp) tg g) (ht : ∀ (s : Shared) (H : Hp) (C : Addr) (cl : List (Str × Addr)) (fp : List Addr), PTs (X.blk s H scope (compEnvC scope cl C X.env) fp) ifs (tIt G B W0 mt))
    (he : ∀ (s : Shared) (H : Hp) (C : Addr) (cl : List (Str × Addr)) (fp : List Addr), IE G B W0 (X.blk s H scope (compEnvC scope cl C X.env) fp) elt me) (hc : X.calm = true := by rfl) (hs : ∀ x, foldedSetIterable iter X.env x = pure x := by intro _; rfl) :
    IE G B W X (.ListComp elt [⟨tg, iter, ifs, 0⟩] scope pos) (mLcRD n (own.map (·.2)) g mi mt me) :=
  PE.imp (pe_lc hc hN hi ok hg ht he hs) fun _ _ _ t => lcrD_ok n _ t
theorem is_setlcRD {mi : MI} (n : Nat) {elt tg iter : Expr} {ifs : List Expr} {scope : Scope} {py : Pos} {y : Str} (i : Nat) (own : List (Str × Nat)) {g : MG} (hN : X.N.Nodup) (ok : BlkOk X.N X.env.scope scope own) (hi : IID G B W X tg iter mi)
    (hg : ∀ (s : Shared) (H : Hp) (C : Addr) (cl : List (Str × Addr)) (fp : List Addr), IGe G B (own.map (·.2)) (X.blk s H scope (compEnvC scope cl C X.env) fp) tg g) (ht : ∀ (s : Shared) (H : Hp) (C : Addr) (cl : List (Str × Addr)) (fp : List Addr), PTs (X.blk s H scope (compEnvC scope cl C X.env) fp) ifs (tIt G B W0 mt))
    (he : ∀ (s : Shared) (H : Hp) (C : Addr) (cl : List (Str × Addr)) (fp : List Addr), IE G B W0 (X.blk s H scope (compEnvC scope cl C X.env) fp) elt me) (hc : X.calm = true := by rfl) (hs : ∀ x, foldedSetIterable iter X.env x = pure x := by intro _; rfl)
    (hy : X.N[i]? = some y := by rfl) (hyl : X.env.scope.names.lookup y = some .local := by rfl) (hsw : swapsWith (.ListComp elt [⟨tg, iter, ifs, 0⟩] scope pos) (some (.Name y py)) pos'.line X.env = pure true := by rfl) :
    IS G B zs W X (.Assign [.Name y py] (.ListComp elt [⟨tg, iter, ifs, 0⟩] scope pos) pos') (sSet i (mLcRD n (own.map (·.2)) g mi mt me)) :=
  PS.imp (ps_setLc hc hN hy hyl hsw hi ok hg ht he hs) fun D σ H ⟨c, τ, L, eH, r, o, s, p⟩ => by
  refine lcrD_ok n _ ⟨c, τ, L, eH, r, s, (PostS.bindS (R := RV G) o s p).imp fun u H1 ⟨c1, v, e1, N1, x1, p1⟩ => ?_⟩
  subst e1
  by_cases hl : i < τ.length
  · rw [if_pos hl] at p1
    obtain ⟨L', S, s'⟩ := RS.put N1.rel (o.nxt N1) (s.nxt N1) hl x1
    exact p1 c1 L' _ S rfl s'
  · rw [if_neg hl] at p1
    exact p1.elim
theorem ie_lcD {mi : MI} (n : Nat) {elt tg iter : Expr} {ifs : List Expr} {scope : Scope} (own : List (Str × Nat)) {g : MG} (hN : X.N.Nodup) (ok : BlkOk X.N X.env.scope scope own) (hi : IID G B W X tg iter mi)
    (hg : ∀ (s : Shared) (H : Hp) (C : Addr) (cl : List (Str × Addr)) (fp : List Addr), IGe G B (own.map (·.2)) (X.blk s H scope (compEnvC scope cl C X.env) fp) tg g) (ht : ∀ (s : Shared) (H : Hp) (C : Addr) (cl : List (Str × Addr)) (fp : List Addr), PTs (X.blk s H scope (compEnvC scope cl C X.env) fp) ifs (tIt G B W0 mt))
    (he : ∀ (s : Shared) (H : Hp) (C : Addr) (cl : List (Str × Addr)) (fp : List Addr), IE G B W0 (X.blk s H scope (compEnvC scope cl C X.env) fp) elt me) (hc : X.calm = true := by rfl) (hs : ∀ x, foldedSetIterable iter X.env x = pure x := by intro _; rfl) :
    IE G B W X (.ListComp elt [⟨tg, iter, ifs, 0⟩] scope pos) (mLcD n (own.map (·.2)) g mi mt me) :=
  PE.imp (pe_lc hc hN hi ok hg ht he hs) fun _ _ _ t => lcD_ok n _ t
theorem is_setlcD {mi : MI} (n : Nat) {elt tg iter : Expr} {ifs : List Expr} {scope : Scope} {py : Pos} {y : Str} (i : Nat) (own : List (Str × Nat)) {g : MG} (hN : X.N.Nodup) (ok : BlkOk X.N X.env.scope scope own) (hi : IID G B W X tg iter mi)
    (hg : ∀ (s : Shared) (H : Hp) (C : Addr) (cl : List (Str × Addr)) (fp : List Addr), IGe G B (own.map (·.2)) (X.blk s H scope (compEnvC scope cl C X.env) fp) tg g) (ht : ∀ (s : Shared) (H : Hp) (C : Addr) (cl : List (Str × Addr)) (fp : List Addr), PTs (X.blk s H scope (compEnvC scope cl C X.env) fp) ifs (tIt G B W0 mt))
    (he : ∀ (s : Shared) (H : Hp) (C : Addr) (cl : List (Str × Addr)) (fp : List Addr), IE G B W0 (X.blk s H scope (compEnvC scope cl C X.env) fp) elt me) (hc : X.calm = true := by rfl) (hs : ∀ x, foldedSetIterable iter X.env x = pure x := by intro _; rfl)
    (hy : X.N[i]? = some y := by rfl) (hyl : X.env.scope.names.lookup y = some .local := by rfl) (hsw : swapsWith (.ListComp elt [⟨tg, iter, ifs, 0⟩] scope pos) (some (.Name y py)) pos'.line X.env = pure true := by rfl) :
    IS G B zs W X (.Assign [.Name y py] (.ListComp elt [⟨tg, iter, ifs, 0⟩] scope pos) pos') (sSet i (mLcD n (own.map (·.2)) g mi mt me)) :=
  PS.imp (ps_setLc hc hN hy hyl hsw hi ok hg ht he hs) fun D σ H ⟨c, τ, L, eH, r, o, s, p⟩ => by
  refine lcD_ok n _ ⟨c, τ, L, eH, r, s, (PostS.bindS (R := RV G) o s p).imp fun u H1 ⟨c1, v, e1, N1, x1, p1⟩ => ?_⟩
  subst e1
  by_cases hl : i < τ.length
  · rw [if_pos hl] at p1
    obtain ⟨L', S, s'⟩ := RS.put N1.rel (o.nxt N1) (s.nxt N1) hl x1
    exact p1 c1 L' _ S rfl s'
  · rw [if_neg hl] at p1
    exact p1.elim
end
/-! how they run -/
section
variable {g : MG} {b : MS} {mt : MT} {me e : ME} {ea : MA} {mi : MI} {τ : AS} {h : AH} {src : Src} {k : AV → Src} {v : AV} {n m i : Nat} {xs acc : List AV}
@[simp] theorem mSrc_ev : mSrc k e τ h = (e τ h).bind (fSrc k) := rfl
@[simp] theorem fSrc_ev : fSrc k v h = if (lstOf v h).isSome then .ok (k v) h else .stuck := rfl
@[simp] theorem mSrcA_ev : mSrcA k ea τ h = (ea τ h).bind (fSrcA k) := rfl
@[simp] theorem fSrcA_ev : fSrcA k [v] h = if (lstOf v h).isSome then .ok (k v) h else .stuck := rfl
@[simp] theorem lstOf_ref : lstOf (.ref n) h = match h[n]? with | some (some (.lst xs)) => some xs | _ => none := rfl
@[simp] theorem lstOf_fl : lstOf (.fl xs) h = some xs := rfl
@[simp] theorem sForD_ev : sForD n g mi b τ h = (mi τ h).bindS τ (fForD n g b τ) := rfl
@[simp] theorem fForD_ev : fForD n g b τ src h = forD g b src n 0 τ h := rfl
@[simp] theorem mLcD_ev {is : List Nat} : mLcD n is g mi mt me τ h = (mi τ h).bind (fLcD n g mt me (wipeA τ is)) := rfl
@[simp] theorem fLcD_ev : fLcD n g mt me τ src h = lcD g mt me τ src n 0 [] h := rfl
@[simp] theorem mLcRD_ev {is : List Nat} : mLcRD n is g mi mt me τ h = (mi τ h).bind (fLcRD n g mt me (wipeA τ is)) := rfl
@[simp] theorem fLcRD_ev : fLcRD n g mt me τ src h = lcRD g mt me τ h.length src n 0 (h ++ [some (.lst [])]) := rfl
end
/-- a loop over a list of the heap that its turns leave as it is -/
theorem forD_inv {g : MG} {b : MS} {src : Src} (I : Nat → AS → AH → Prop) (vs : Nat → Option AV) (hsrc : ∀ i τ h, I i τ h → src i h = some (vs i)) (N : Nat) (hN : ∀ i, i < N → (vs i).isSome = true) (hE : vs N = none)
    (H : ∀ i v τ h, i < N → vs i = some v → I i τ h → ∃ τ1 τ2 h2, g v τ = some τ1 ∧ b τ1 h = .nx τ2 h2 ∧ I (i + 1) τ2 h2) : ∀ (k i m : Nat), i + k = N → k < m → ∀ τ h, I i τ h → ∃ τ' h', forD g b src m i τ h = .nx τ' h' ∧ I N τ' h'
  | 0, i, m, e, hm, τ, h, q => by
    have : i = N := by omega
    subst this
    obtain ⟨m', rfl⟩ : ∃ m', m = m' + 1 := ⟨m - 1, by omega⟩
    exact ⟨τ, h, by rw [forD, hsrc _ τ h q, hE], q⟩
  | k + 1, i, m, e, hm, τ, h, q => by
    obtain ⟨m', rfl⟩ : ∃ m', m = m' + 1 := ⟨m - 1, by omega⟩
    have hi : i < N := by omega
    obtain ⟨v, hv⟩ := Option.isSome_iff_exists.mp (hN i hi)
    obtain ⟨τ1, τ2, h2, e1, e2, q2⟩ := H i v τ h hi hv q
    obtain ⟨τ', h', e3, q3⟩ := forD_inv I vs hsrc N hN hE H k (i + 1) m' (by omega) (by omega) τ2 h2 q2
    refine ⟨τ', h', ?_, q3⟩
    rw [forD, hsrc _ τ h q, hv]
    simp only [e1]
    rw [e2]
    exact e3
/-- a comprehension over a list of the heap, its items without effect: as over the list itself -/
theorem lcD_lcL {g : MG} {mt : MT} {me : ME} {τ : AS} {v : AV} {h : AH} {xs : List AV} (hl : lstOf v h = some xs) (hq : ∀ x, x ∈ xs → ∃ τ2 b, g x τ = some τ2 ∧ mt τ2 h = .ok b h ∧ (b = true → ∃ y, me τ2 h = .ok y h)) : ∀ (k i m : Nat) (acc : List AV), i + k = xs.length → k < m → lcD g mt me τ (srcL v) m i acc h = lcL g mt me τ (xs.drop i) acc h
  | 0, i, m, acc, e, hm => by
    obtain ⟨m', rfl⟩ : ∃ m', m = m' + 1 := ⟨m - 1, by omega⟩
    have : xs[i]? = none := by rw [List.getElem?_eq_none_iff]; omega
    rw [lcD, srcL, hl]
    simp only [Option.map_some, this]
    rw [List.drop_eq_nil_of_le (by omega)]
    rfl
  | k + 1, i, m, acc, e, hm => by
    obtain ⟨m', rfl⟩ : ∃ m', m = m' + 1 := ⟨m - 1, by omega⟩
    have hi : i < xs.length := by omega
    have hx : xs[i]? = some xs[i] := List.getElem?_eq_getElem hi
    obtain ⟨τ2, b, e1, e2, e3⟩ := hq xs[i] (List.getElem_mem hi)
    rw [lcD, srcL, hl, List.drop_eq_getElem_cons hi, lcL]
    simp only [Option.map_some, hx, e1, e2, noX, Res.bind]
    have ih := fun acc => lcD_lcL hl hq k (i + 1) m' acc (by omega) (by omega)
    unfold srcL at ih
    cases b with
    | false => simp only [Bool.false_eq_true, if_false]; exact ih acc
    | true =>
      obtain ⟨y, ey⟩ := e3 rfl
      simp only [if_true, ey]
      by_cases hs : small (acc.length + 1) = true
      · rw [if_pos hs, if_pos hs]; exact ih _
      · rw [if_neg hs, if_neg hs]
end PI
/-! properties, classmethods, staticmethods, cls(..). -/
namespace PI
open PySem PySem.Spec PyProof.Rows L2 ClX
section
variable {G : Gx} {B : Bx} {zs : Addr → Prop} {W : WX} {X : Cx} {c c' : Cfg} {L : List Addr} {τ : AS} {σ : SL} {pos pos' p apos cpos : Pos} {e o a : Expr} {es : List Expr} {m n mo me : ME} {ma mi mk : MA} {mt : MT} {x s : Str} {i : Nat} {vs : List Nat}
/-! ### properties -/
theorem cx_false {P : Program} {w : World} {outer : List Env} {H : Hp} {s s' : Shared} {e : Value} (hc : L2.CX P w outer H s (fun _ _ _ => False) e s') : False := by
  obtain ⟨_, _, _, _, _, _, _, _, _, _, _, _, z⟩ := hc
  exact z
def fProp (kc : Nat) (f : FN) : AV → AH → Res AV := fun v h => match fldsOf v h with
  | some (k', _) => if k' = kc then noX (f [v] h) else .stuck
  | none => .stuck
/-- o.f, f a property of the class kc -/
def mProp (kc : Nat) (f : FN) (m : ME) : ME := fun τ h => (m τ h).bind (fProp kc f)
@[simp] theorem mProp_ev {kc : Nat} {f : FN} {h : AH} : mProp kc f m τ h = (m τ h).bind (fProp kc f) := rfl
@[simp] theorem fProp_ev {kc : Nat} {f : FN} {v : AV} {h : AH} : fProp kc f v h = match fldsOf v h with
  | some (k', _) => if k' = kc then noX (f [v] h) else .stuck
  | none => .stuck := rfl
@[simp] theorem noX_ok {α : Type} {a : α} {h : AH} : noX (Res.ok a h) = .ok a h := rfl
theorem ie_prop {kc k : Nat} {g pp : Addr} {fd : FuncData} {ps : List Str} {fn : FN} {f : Str} (he : IE G B W X e m) (cl : Cls X.K (G.ca kc)) (hp : PropOf X.K (G.ca kc) f pp g) (F : FnOk X.prog X.w X.K X.mg X.base (L2.CX X.prog X.w) k g fd ps (spF G 1 fn)) (hr : Room (k + 1) X.A) (hb : Binds X.K fd ps [])
    (hab : attributeBase e f X.env (eval e X.env) = eval e X.env := by rfl) : IE G B W X (.Attribute e f pos) (mProp kc (chk 1 fn) m) := by
  refine ⟨fun pins s σ H Q I ⟨c, τ, L, eH, rl, s', q⟩ => ?_⟩
  refine attr_of hab (thn (he.run pins s σ H _ I ⟨c, τ, L, eH, rl, s', Post.bind (R := RV G) q⟩) fun u s1 ⟨y, H1, I1, ry, c1, v, e1, N1, x1, p1⟩ => ?_)
  subst e1
  unfold fProp at p1
  cases q1 : fldsOf v c1.h with
  | none => rw [q1] at p1; exact p1.elim
  | some kf =>
    obtain ⟨k', fs⟩ := kf
    rw [q1] at p1
    simp only at p1
    by_cases hk : k' = kc
    · rw [if_pos hk] at p1
      subst hk
      obtain ⟨aa, dx, uf, rfl, ep, xf⟩ := inst_at N1.rel x1 q1
      obtain rfl : u = Value.ref aa := ry
      refine getprop_ok (dvs := []) (ds := []) (E := fun _ _ _ => False) I1 ep cl hp F hr hb .nil (fun pins σ H s e s' I2 hc => (cx_false hc).elim) ?_
      refine sp_of (vs := [v]) N1.rel (.cons x1 .nil) rfl ?_
      have p2 : Post G (RV G) c1 (fun k d H' => W k d σ H') Q (noX (fn [v] c1.h)) := p1
      revert p2
      cases fn [v] c1.h with
      | ok w h2 => exact fun p2 => p2
      | exc _ _ _ => exact fun p2 => p2.elim
      | stuck => exact fun p2 => p2.elim
    · rw [if_neg hk] at p1; exact p1.elim
/-! ### classmethods, staticmethods -/
def fCm2 (kc : Nat) (f : FN) : List AV → AH → Res AV := fun vs h => f (.cls kc :: vs) h
def fCm (kc : Nat) (f : FN) (ma : MA) (τ : AS) : AV → AH → Res AV := fun v h => match v with
  | .cls k' => if k' = kc then (ma τ h).bind (fCm2 kc f) else .stuck
  | _ => .stuck
/-- C.m(..), m a classmethod of C -/
def mCm (kc : Nat) (f : FN) (m : ME) (ma : MA) : ME := fun τ h => (m τ h).bind (fCm kc f ma τ)
@[simp] theorem mCm_ev {kc : Nat} {f : FN} {h : AH} : mCm kc f m ma τ h = (m τ h).bind (fCm kc f ma τ) := rfl
@[simp] theorem fCm_ev {kc k' : Nat} {f : FN} {h : AH} : fCm kc f ma τ (.cls k') h = if k' = kc then (ma τ h).bind (fCm2 kc f) else .stuck := rfl
@[simp] theorem fCm2_ev {kc : Nat} {f : FN} {vs : List AV} {h : AH} : fCm2 kc f vs h = f (.cls kc :: vs) h := rfl
theorem run_fnN' {k N : Nat} {g : Addr} {fd : FuncData} {ps : List Str} {fn : FN} {pins : List (Addr × Obj)} {s : Shared} {Q : VK} {us : List Value} {vs : List V} (F : FnOk X.prog X.w X.K X.mg X.base (L2.CX X.prog X.w) k g fd ps (spF G N fn)) (hr : Room k X.A) (tk : Takes X W) (hb : Binds X.K fd ps []) {H : Hp} (I : Inv X pins σ H s) (r : Vals vs us) (h : spF G N fn vs H Q (fun k d H' => W k d σ H')) :
    codeAny (model X.prog X.w) X.A (.call (.ref g) ⟨us, []⟩) (fun r s' => match r with | .ok (.ret v) => EP X pins σ Q v s' | .ok _ => False | .error e => X.xe e s') s := by
  have hl : (us ++ []).length = ps.length := by
    rw [List.append_nil, ← r.length]
    exact F.len _ _ _ _ h
  have hb2 := hb s us I.kIn hl
  rw [List.append_nil] at hb2
  refine codeAny_mono (F.run X.A X.stack s H ⟨us, []⟩ us vs Q (fun k d H' => W k d σ H') hr I.env0 hb2 r h) fun r s' hq => ?_
  cases r with
  | error e => exact (passAt tk σ) pins H s e s' I hq
  | ok fl =>
    cases fl with
    | ret u => exact I.after hq
    | next => exact False.elim hq
    | brk => exact False.elim hq
    | cont => exact False.elim hq
theorem ie_cm {kc k N : Nat} {g pp : Addr} {fd : FuncData} {ps : List Str} {fn : FN} {f : Str} {mc : Value} {pl : Sem Bool} (he : IE G B W X o m) (r : CRead X.K (G.ca kc) mc) (cm : CMet X.K (G.ca kc) mc f pp g) (F : FnOk X.prog X.w X.K X.mg X.base (L2.CX X.prog X.w) k g fd ps (spF G N fn)) (hr : Room k X.A) (tk : Takes X W) (hb : Binds X.K fd ps [])
    (ha : IA G B W X (e :: es) ma)
    (hst : starEach (e :: es) X.env = (false, eval e X.env) :: starEach es X.env := by rfl) (hpl : (backTo pos (starEach es X.env)).any (·.1) = false := by rfl)
    (ht : eval (.Call (.Attribute o f apos) (e :: es) [] pos) X.env = (do
      let ov ← eval o X.env
      standAt apos.atName
      let (f, first) ← holding [ov] (getMethod ov f pl)
      callWith pos f first (backTo pos (starEach (e :: es) X.env)) (backToKw pos (keywordEach [] X.env))) := by rfl) :
    IE G B W X (.Call (.Attribute o f apos) (e :: es) [] pos) (mCm kc (chk N fn) m ma) := by
  refine ⟨fun pins s σ H Q I ⟨c, τ, L, eH, rl, s', q⟩ => ?_⟩
  refine PySem.W.methodCall_KW (pl := pl) (thn (he.run pins s σ H _ I ⟨c, τ, L, eH, rl, s', Post.bind (R := RV G) q⟩) fun u s1 ⟨y, H1, I1, ry, c1, v, e1, N1, x1, p1⟩ => ?_) ht
  subst e1
  cases v with
  | cls k' =>
    have p1 : Post G (RV G) c1 (fun k d H' => W k d σ H') Q (if k' = kc then (ma τ c1.h).bind (fCm2 kc (chk N fn)) else .stuck) := p1
    by_cases hk : k' = kc
    · rw [if_pos hk] at p1
      subst hk
      cases x1
      obtain rfl : u = Value.ref (G.ca k') := ry
      refine getmethcm_ok I1 r cm fun s2 I2 => ?_
      refine callwith_cm I2 (base_none I1 (Nat.le_refl _)) cm.fi (thn (ha.run pos _ s2 σ c1.H _ I2 ⟨c1, τ, L, rfl, N1.rel, s'.nxt N1, Post.bind (R := RVs G) p1⟩) fun us s3 ⟨ws, H2, I3, r2, c2, vs, e2, N2, x2, p2⟩ => ⟨⟨pin_at I3, I3.kIn⟩, ?_⟩) hst hpl
      subst e2
      have p2 : Post G (RV G) c2 (fun k d H' => W k d σ H') Q (chk N fn (.cls k' :: vs) c2.h) := p2
      unfold chk at p2
      by_cases hl : (AV.cls k' :: vs).length = N
      · rw [if_pos hl] at p2
        have z : wpAny (model X.prog X.w) X.A (call (.ref _) us) (EP X ((_, PySem.W.methodObj (.ref g) (.ref (G.ca k'))) :: pins) σ Q) X.xe s3 :=
          wpAny_call (PySem.W.method_call (pin_at I3) (run_fnN' (us := .ref (G.ca k') :: us) (vs := .ref (G.ca k') :: ws) F hr tk hb I3 (.cons rfl r2) (sp_of N2.rel (RVs.cons .cls x2) hl p2)))
        exact thn z fun _ _ y => unpinE y
      · rw [if_neg hl] at p2; exact p2.elim
    · rw [if_neg hk] at p1; exact p1.elim
  | _ => exact p1.elim
/-- C.m is a staticmethod -/
structure SMet (K : PySem.W.Frag) (C : Addr) (mc : Value) (m : Str) (p g : Addr) : Prop where
  at_ : PySem.W.findCls K (.ref C) mc m = some (.get (.builtin "staticmethod.__get__") (.ref p) .none (.ref C))
  rc : ∃ rest, PySem.W.recIn K p "staticmethod" = some (.ref g :: rest)
  kp : PySem.W.keepIn K (.ref g) = true
def fSm (kc : Nat) (f : FN) : AV → AH → Res AV := fun v h => match v with
  | .cls k' => if k' = kc then f [] h else .stuck
  | _ => .stuck
/-- C.m(), m a staticmethod of C -/
def mSm (kc : Nat) (f : FN) (m : ME) : ME := fun τ h => (m τ h).bind (fSm kc f)
@[simp] theorem mSm_ev {kc : Nat} {f : FN} {h : AH} : mSm kc f m τ h = (m τ h).bind (fSm kc f) := rfl
@[simp] theorem fSm_ev {kc k' : Nat} {f : FN} {h : AH} : fSm kc f (.cls k') h = if k' = kc then f [] h else .stuck := rfl
theorem ie_sm0 {kc k : Nat} {g pp : Addr} {fd : FuncData} {ps : List Str} {fn : FN} {f : Str} {mc : Value} {pl : Sem Bool} (he : IE G B W X o m) (r : CRead X.K (G.ca kc) mc) (cm : SMet X.K (G.ca kc) mc f pp g) (F : FnOk X.prog X.w X.K X.mg X.base (L2.CX X.prog X.w) k g fd ps (spF G 0 fn)) (hr : Room k X.A) (tk : Takes X W) (hb : Binds X.K fd ps [])
    (ht : eval (.Call (.Attribute o f apos) [] [] pos) X.env = (do
      let ov ← eval o X.env
      standAt apos.atName
      let (f, first) ← holding [ov] (getMethod ov f pl)
      callWith pos f first (backTo pos (starEach [] X.env)) (backToKw pos (keywordEach [] X.env))) := by rfl) :
    IE G B W X (.Call (.Attribute o f apos) [] [] pos) (mSm kc (chk 0 fn) m) := by
  refine ⟨fun pins s σ H Q I ⟨c, τ, L, eH, rl, s', q⟩ => ?_⟩
  refine PySem.W.methodCall_KW (pl := pl) (thn (he.run pins s σ H _ I ⟨c, τ, L, eH, rl, s', Post.bind (R := RV G) q⟩) fun u s1 ⟨y, H1, I1, ry, c1, v, e1, N1, x1, p1⟩ => ?_) ht
  subst e1
  cases v with
  | cls k' =>
    have p2 : Post G (RV G) c1 (fun k d H' => W k d σ H') Q (if k' = kc then chk 0 fn [] c1.h else .stuck) := p1
    by_cases hk : k' = kc
    · rw [if_pos hk] at p2
      have p2 : Post G (RV G) c1 (fun k d H' => W k d σ H') Q (fn [] c1.h) := by
        have z := p2
        unfold chk at z
        simpa using z
      subst hk
      cases x1
      obtain rfl : u = Value.ref (G.ca k') := ry
      obtain ⟨rest, hp⟩ := cm.rc
      refine PySem.W.method_cls I1.kIn r.ga (PySem.W.cls_bind I1.kIn r.rd cm.at_ (wpAny_call (PySem.W.sm_get (s := { s1 with toks := s1.toks + 1 }) I1.kIn hp (PySem.W.handed_on rfl ?_))))
      have I2 := I1.tok (s1.toks + 1)
      refine PySem.W.callWith_K0 (first := []) I2.kIn cm.kp (wpAny_call ?_)
      exact run_fnN' (us := []) (vs := []) F hr tk hb I2 .nil (sp_of N1.rel .nil rfl p2)
    · rw [if_neg hk] at p2; exact p2.elim
  | _ => exact p1.elim
/-! ### cls(..) -/
def fMkL (kc n m : Nat) (f : FI) (pk : List Nat) (dws : List AV) (ma mk : MA) (τ : AS) : AV → AH → Res AV := fun v h => match v with
  | .cls k' => if k' = kc then mMkN kc n m f pk dws ma mk τ h else .stuck
  | _ => .stuck
def mMkL (kc n m : Nat) (f : FI) (pk : List Nat) (dws : List AV) (mc : ME) (ma mk : MA) : ME := fun τ h => (mc τ h).bind (fMkL kc n m f pk dws ma mk τ)
@[simp] theorem mMkL_ev {kc n m : Nat} {f : FI} {pk : List Nat} {dws : List AV} {mc : ME} {h : AH} : mMkL kc n m f pk dws mc ma mk τ h = (mc τ h).bind (fMkL kc n m f pk dws ma mk τ) := rfl
@[simp] theorem fMkL_ev {kc k' n m : Nat} {f : FI} {pk : List Nat} {dws : List AV} {h : AH} : fMkL kc n m f pk dws ma mk τ (.cls k') h = if k' = kc then mMkN kc n m f pk dws ma mk τ h else .stuck := rfl
def fMkRL (kc n m : Nat) (f : FN) (pk : List Nat) (dws : List AV) (ma mk : MA) (τ : AS) : AV → AH → Res AV := fun v h => match v with
  | .cls k' => if k' = kc then mMkRN kc n m f pk dws ma mk τ h else .stuck
  | _ => .stuck
def mMkRL (kc n m : Nat) (f : FN) (pk : List Nat) (dws : List AV) (mc : ME) (ma mk : MA) : ME := fun τ h => (mc τ h).bind (fMkRL kc n m f pk dws ma mk τ)
@[simp] theorem mMkRL_ev {kc n m : Nat} {f : FN} {pk : List Nat} {dws : List AV} {mc : ME} {h : AH} : mMkRL kc n m f pk dws mc ma mk τ h = (mc τ h).bind (fMkRL kc n m f pk dws ma mk τ) := rfl
@[simp] theorem fMkRL_ev {kc k' n m : Nat} {f : FN} {pk : List Nat} {dws : List AV} {h : AH} : fMkRL kc n m f pk dws ma mk τ (.cls k') h = if k' = kc then mMkRN kc n m f pk dws ma mk τ h else .stuck := rfl
theorem ie_mkL {kc k N nn : Nat} {f : Addr} {fd : FuncData} {ps ks : List Str} {pk : List Nat} {dws : List AV} {fi : FI} {kws : List Keyword} {mc : ME} (M : Mk X.K (G.ca kc) f) (F : FnOk X.prog X.w X.K X.mg X.base (L2.CX X.prog X.w) k f fd ps (spI G kc N fi)) (hr : Room (k + 1) X.A) (tk : Takes X W) (hc : IE G B W X (.Name x p) mc) (hb : KBD G X.K fd ps (nn + 1) ks (0 :: pk.map (· + 1)) dws)
    (ha : IA G B W X (e :: es) ma) (hkw : IK G B W X kws mk) (hall : (backToKw pos (keywordEach kws X.env)).all (·.1.isSome) = true := by rfl) (hks : (backToKw pos (keywordEach kws X.env)).filterMap (·.1) = ks := by rfl) 
    (he : starEach (e :: es) X.env = (false, eval e X.env) :: starEach es X.env := by rfl) (hpl : ((backTo pos (starEach (e :: es) X.env)).any (·.1) || (backToKw pos (keywordEach kws X.env)).any (·.1.isNone)) = false := by rfl) :
    IE G B W X (.Call (.Name x p) (e :: es) kws pos) (mMkL kc nn ks.length (chkI N fi) pk dws mc ma mk) := by
  obtain ⟨dvs, ds, rd, gd, kb⟩ := hb.ex
  refine ⟨fun pins s σ H Q I ⟨c, τ, L, eH, rl, s', q⟩ => ?_⟩
  refine wpAny_Call_Name_kw (thn (hc.run pins s σ H _ I ⟨c, τ, L, eH, rl, s', Post.bind (R := RV G) q⟩) fun u0 s0 ⟨y0, H0, I0, ry0, c0, v0, e0, N0, x0, p0⟩ => ?_)
  subst e0
  cases v0 with
  | cls k' =>
  have p0 : Post G (RV G) c0 (fun k d H' => W k d σ H') Q (if k' = kc then mMkN kc nn ks.length (chkI N fi) pk dws ma mk τ c0.h else .stuck) := p0
  by_cases hk : k' = kc
  case neg => rw [if_neg hk] at p0; exact p0.elim
  rw [if_pos hk] at p0
  subst hk
  cases x0
  obtain rfl : u0 = Value.ref (G.ca k') := ry0
  have q := p0
  have s' := s'.nxt N0
  refine PySem.W.callWith_KW (h₀ := X.base) I0.ok.mod.kin M.kp hall (thn (ha.run pos pins s0 σ c0.H _ I0 ⟨c0, τ, L, rfl, N0.rel, s', Post.bind (R := RVs G) q⟩) fun us s1 ⟨vs, H1, I1, r1, c1, xs, e1, N1, x1, p1⟩ => ?_) hpl he
  refine thn (hkw.run pos pins s1 σ H1 _ I1 ⟨c1, τ, L, e1.symm, N1.rel, s'.nxt N1, Post.bind (R := RVs G) p1⟩) fun ws s2 ⟨zs, H2, I2, r2, c2, ys, e2, N2, x2, p2⟩ => ⟨I2.kIn, ?_⟩
  rw [hks]
  unfold fMkN2 at p2
  by_cases hl : xs.length = nn ∧ ys.length = ks.length
  · rw [if_pos hl] at p2
    subst e2
    refine run_makeKS (E := fun σ k d H => W k d σ H) M F hr kb (passAt tk σ) I2 r1 r2 (by rw [← x1.length]; exact hl.1) (by rw [← x2.length]; exact hl.2) fun y dx hy hdx ne => ?_
    show (spI G k' N fi) (pickL (0 :: pk.map (· + 1)) (.ref y :: (vs ++ zs ++ dvs))) _ _ _
    rw [pick_succ]
    exact spI_new N2.rel (pick_rvs (((x1.mono N2.mv).append x2).append (gd c2)) pk) hy hdx ne p2
  · rw [if_neg hl] at p2; exact p2.elim
  | _ => exact p0.elim
theorem ie_mkL0 {kc k N : Nat} {f : Addr} {fd : FuncData} {ps ks : List Str} {pk : List Nat} {dws : List AV} {fi : FI} {kws : List Keyword} {mc : ME} (M : Mk X.K (G.ca kc) f) (F : FnOk X.prog X.w X.K X.mg X.base (L2.CX X.prog X.w) k f fd ps (spI G kc N fi)) (hr : Room (k + 1) X.A) (tk : Takes X W) (hc : IE G B W X (.Name x p) mc) (hb : KBD G X.K fd ps (0 + 1) ks (0 :: pk.map (· + 1)) dws)
    (hkw : IK G B W X kws mk) (hall : (backToKw pos (keywordEach kws X.env)).all (·.1.isSome) = true := by rfl) (hks : (backToKw pos (keywordEach kws X.env)).filterMap (·.1) = ks := by rfl) 
    (hpl : ((backTo pos (starEach [] X.env)).any (·.1) || (backToKw pos (keywordEach kws X.env)).any (·.1.isNone)) = false := by rfl) :
    IE G B W X (.Call (.Name x p) [] kws pos) (mMkL kc 0 ks.length (chkI N fi) pk dws mc mNil mk) := by
  obtain ⟨dvs, ds, rd, gd, kb⟩ := hb.ex
  refine ⟨fun pins s σ H Q I ⟨c, τ, L, eH, rl, s', q⟩ => ?_⟩
  refine wpAny_Call_Name_kw (thn (hc.run pins s σ H _ I ⟨c, τ, L, eH, rl, s', Post.bind (R := RV G) q⟩) fun u0 s0 ⟨y0, H0, I0, ry0, c0, v0, e0, N0, x0, p0⟩ => ?_)
  subst e0
  cases v0 with
  | cls k' =>
  have p0 : Post G (RV G) c0 (fun k d H' => W k d σ H') Q (if k' = kc then mMkN kc 0 ks.length (chkI N fi) pk dws mNil mk τ c0.h else .stuck) := p0
  by_cases hk : k' = kc
  case neg => rw [if_neg hk] at p0; exact p0.elim
  rw [if_pos hk] at p0
  subst hk
  cases x0
  obtain rfl : u0 = Value.ref (G.ca k') := ry0
  have q := p0
  have s' := s'.nxt N0
  refine PySem.W.callWith_KW0 (h₀ := X.base) I0.ok.mod.kin M.kp hall ?_ hpl
  have q' : Post G (RV G) c0 (fun k d H' => W k d σ H') Q ((mk τ c0.h).bind (fMkN2 k' 0 ks.length (chkI N fi) pk dws [])) := q
  refine thn (hkw.run pos pins s0 σ c0.H _ I0 ⟨c0, τ, L, rfl, N0.rel, s', Post.bind (R := RVs G) q'⟩) fun ws s2 ⟨zs, H2, I2, r2, c2, ys, e2, N2, x2, p2⟩ => ⟨I2.kIn, ?_⟩
  rw [hks]
  unfold fMkN2 at p2
  by_cases hl : ([] : List AV).length = 0 ∧ ys.length = ks.length
  · rw [if_pos hl] at p2
    subst e2
    refine run_makeKS (E := fun σ k d H => W k d σ H) M F hr kb (passAt tk σ) (us := []) (vs := []) I2 .nil r2 rfl (by rw [← x2.length]; exact hl.2) fun y dx hy hdx ne => ?_
    show (spI G k' N fi) (pickL (0 :: pk.map (· + 1)) (.ref y :: (([] : List V) ++ zs ++ dvs))) _ _ _
    rw [pick_succ]
    exact spI_new N2.rel (pick_rvs ((RVs.append .nil x2).append (gd c2)) pk) hy hdx ne p2
  · rw [if_neg hl] at p2; exact p2.elim
  | _ => exact p0.elim
theorem ie_mkRL {kc k N nn : Nat} {f : Addr} {fd : FuncData} {ps ks : List Str} {pk : List Nat} {dws : List AV} {fi : FN} {kws : List Keyword} {mc : ME} (M : Mk X.K (G.ca kc) f) (F : FnOk X.prog X.w X.K X.mg X.base (L2.CX X.prog X.w) k f fd ps (spF G N fi)) (hr : Room (k + 1) X.A) (tk : Takes X W) (hc : IE G B W X (.Name x p) mc) (hb : KBD G X.K fd ps (nn + 1) ks (0 :: pk.map (· + 1)) dws)
    (ha : IA G B W X (e :: es) ma) (hkw : IK G B W X kws mk) (hall : (backToKw pos (keywordEach kws X.env)).all (·.1.isSome) = true := by rfl) (hks : (backToKw pos (keywordEach kws X.env)).filterMap (·.1) = ks := by rfl) 
    (he : starEach (e :: es) X.env = (false, eval e X.env) :: starEach es X.env := by rfl) (hpl : ((backTo pos (starEach (e :: es) X.env)).any (·.1) || (backToKw pos (keywordEach kws X.env)).any (·.1.isNone)) = false := by rfl) :
    IE G B W X (.Call (.Name x p) (e :: es) kws pos) (mMkRL kc nn ks.length (chk N fi) pk dws mc ma mk) := by
  obtain ⟨dvs, ds, rd, gd, kb⟩ := hb.ex
  refine ⟨fun pins s σ H Q I ⟨c, τ, L, eH, rl, s', q⟩ => ?_⟩
  refine wpAny_Call_Name_kw (thn (hc.run pins s σ H _ I ⟨c, τ, L, eH, rl, s', Post.bind (R := RV G) q⟩) fun u0 s0 ⟨y0, H0, I0, ry0, c0, v0, e0, N0, x0, p0⟩ => ?_)
  subst e0
  cases v0 with
  | cls k' =>
  have p0 : Post G (RV G) c0 (fun k d H' => W k d σ H') Q (if k' = kc then mMkRN kc nn ks.length (chk N fi) pk dws ma mk τ c0.h else .stuck) := p0
  by_cases hk : k' = kc
  case neg => rw [if_neg hk] at p0; exact p0.elim
  rw [if_pos hk] at p0
  subst hk
  cases x0
  obtain rfl : u0 = Value.ref (G.ca k') := ry0
  have q := p0
  have s' := s'.nxt N0
  refine PySem.W.callWith_KW (h₀ := X.base) I0.ok.mod.kin M.kp hall (thn (ha.run pos pins s0 σ c0.H _ I0 ⟨c0, τ, L, rfl, N0.rel, s', Post.bind (R := RVs G) q⟩) fun us s1 ⟨vs, H1, I1, r1, c1, xs, e1, N1, x1, p1⟩ => ?_) hpl he
  refine thn (hkw.run pos pins s1 σ H1 _ I1 ⟨c1, τ, L, e1.symm, N1.rel, s'.nxt N1, Post.bind (R := RVs G) p1⟩) fun ws s2 ⟨zs, H2, I2, r2, c2, ys, e2, N2, x2, p2⟩ => ⟨I2.kIn, ?_⟩
  rw [hks]
  unfold fMkRN2 at p2
  by_cases hl : xs.length = nn ∧ ys.length = ks.length
  · rw [if_pos hl] at p2
    subst e2
    refine run_makeKS (E := fun σ k d H => W k d σ H) M F hr kb (passAt tk σ) I2 r1 r2 (by rw [← x1.length]; exact hl.1) (by rw [← x2.length]; exact hl.2) fun y dx hy hdx ne => ?_
    show (spF G N fi) (pickL (0 :: pk.map (· + 1)) (.ref y :: (vs ++ zs ++ dvs))) _ _ _
    rw [pick_succ]
    exact spF_new N2.rel (pick_rvs (((x1.mono N2.mv).append x2).append (gd c2)) pk) hy hdx ne (by
      have p3 : Post G (RV G) c2 _ Q ((chk N fi (.ref c2.h.length :: pickL pk (xs ++ ys ++ dws)) (c2.h ++ [some (.ins k' [])])).made c2.h.length) := p2
      exact p3)
  · rw [if_neg hl] at p2; exact p2.elim
  | _ => exact p0.elim
theorem ie_mkRL0 {kc k N : Nat} {f : Addr} {fd : FuncData} {ps ks : List Str} {pk : List Nat} {dws : List AV} {fi : FN} {kws : List Keyword} {mc : ME} (M : Mk X.K (G.ca kc) f) (F : FnOk X.prog X.w X.K X.mg X.base (L2.CX X.prog X.w) k f fd ps (spF G N fi)) (hr : Room (k + 1) X.A) (tk : Takes X W) (hc : IE G B W X (.Name x p) mc) (hb : KBD G X.K fd ps (0 + 1) ks (0 :: pk.map (· + 1)) dws)
    (hkw : IK G B W X kws mk) (hall : (backToKw pos (keywordEach kws X.env)).all (·.1.isSome) = true := by rfl) (hks : (backToKw pos (keywordEach kws X.env)).filterMap (·.1) = ks := by rfl) 
    (hpl : ((backTo pos (starEach [] X.env)).any (·.1) || (backToKw pos (keywordEach kws X.env)).any (·.1.isNone)) = false := by rfl) :
    IE G B W X (.Call (.Name x p) [] kws pos) (mMkRL kc 0 ks.length (chk N fi) pk dws mc mNil mk) := by
  obtain ⟨dvs, ds, rd, gd, kb⟩ := hb.ex
  refine ⟨fun pins s σ H Q I ⟨c, τ, L, eH, rl, s', q⟩ => ?_⟩
  refine wpAny_Call_Name_kw (thn (hc.run pins s σ H _ I ⟨c, τ, L, eH, rl, s', Post.bind (R := RV G) q⟩) fun u0 s0 ⟨y0, H0, I0, ry0, c0, v0, e0, N0, x0, p0⟩ => ?_)
  subst e0
  cases v0 with
  | cls k' =>
  have p0 : Post G (RV G) c0 (fun k d H' => W k d σ H') Q (if k' = kc then mMkRN kc 0 ks.length (chk N fi) pk dws mNil mk τ c0.h else .stuck) := p0
  by_cases hk : k' = kc
  case neg => rw [if_neg hk] at p0; exact p0.elim
  rw [if_pos hk] at p0
  subst hk
  cases x0
  obtain rfl : u0 = Value.ref (G.ca k') := ry0
  have q := p0
  have s' := s'.nxt N0
  refine PySem.W.callWith_KW0 (h₀ := X.base) I0.ok.mod.kin M.kp hall ?_ hpl
  have q' : Post G (RV G) c0 (fun k d H' => W k d σ H') Q ((mk τ c0.h).bind (fMkRN2 k' 0 ks.length (chk N fi) pk dws [])) := q
  refine thn (hkw.run pos pins s0 σ c0.H _ I0 ⟨c0, τ, L, rfl, N0.rel, s', Post.bind (R := RVs G) q'⟩) fun ws s2 ⟨zs, H2, I2, r2, c2, ys, e2, N2, x2, p2⟩ => ⟨I2.kIn, ?_⟩
  rw [hks]
  unfold fMkRN2 at p2
  by_cases hl : ([] : List AV).length = 0 ∧ ys.length = ks.length
  · rw [if_pos hl] at p2
    subst e2
    refine run_makeKS (E := fun σ k d H => W k d σ H) M F hr kb (passAt tk σ) (us := []) (vs := []) I2 .nil r2 rfl (by rw [← x2.length]; exact hl.2) fun y dx hy hdx ne => ?_
    show (spF G N fi) (pickL (0 :: pk.map (· + 1)) (.ref y :: (([] : List V) ++ zs ++ dvs))) _ _ _
    rw [pick_succ]
    exact spF_new N2.rel (pick_rvs ((RVs.append .nil x2).append (gd c2)) pk) hy hdx ne (by
      have p3 : Post G (RV G) c2 _ Q ((chk N fi (.ref c2.h.length :: pickL pk ([] ++ ys ++ dws)) (c2.h ++ [some (.ins k' [])])).made c2.h.length) := p2
      exact p3)
  · rw [if_neg hl] at p2; exact p2.elim
  | _ => exact p0.elim
end
end PI
/-! an own class's __getitem__, __setitem__, __contains__, __len__, __or__. -/
namespace PI
open PySem PySem.Spec PyProof.Rows L2 ClX
section
variable {G : Gx} {B : Bx} {zs : Addr → Prop} {W : WX} {X : Cx} {c c' : Cfg} {L : List Addr} {τ : AS} {σ : SL} {pos pos' p apos cpos : Pos} {e o a b : Expr} {es : List Expr} {m n mo me : ME} {ma mi mk : MA} {mt : MT} {x s : Str} {i : Nat} {vs : List Nat}
theorem own_run {A : Around} {k N : Nat} {g : Addr} {fd : FuncData} {ps : List Str} {fn : FN} {pins : List (Addr × Obj)} {s : Shared} {Q : VK} {us : List Value} {vs : List V} (F : FnOk X.prog X.w X.K X.mg X.base (L2.CX X.prog X.w) k g fd ps (spF G N fn)) {H : Hp} (hr : Room k A) (e0 : Env0 X.prog X.w X.K X.mg X.base A X.stack s H) (tk : Takes X W) (hb : Binds X.K fd ps []) (I : Inv X pins σ H s) (r : Vals vs us) (h : spF G N fn vs H Q (fun k d H' => W k d σ H')) :
    wpAny (model X.prog X.w) A (call (.ref g) us) (EP X pins σ Q) X.xe s := by
  have hl : (us ++ []).length = ps.length := by
    rw [List.append_nil, ← r.length]
    exact F.len _ _ _ _ h
  have hb2 := hb s us I.kIn hl
  rw [List.append_nil] at hb2
  refine wpAny_call (codeAny_mono (F.run A X.stack s H ⟨us, []⟩ us vs Q (fun k d H' => W k d σ H') hr e0 hb2 r h) fun r s' hq => ?_)
  cases r with
  | error e => exact (passAt tk σ) pins H s e s' I hq
  | ok fl =>
    cases fl with
    | ret u => exact I.after hq
    | next => exact False.elim hq
    | brk => exact False.elim hq
    | cont => exact False.elim hq
def fOwnB (kc : Nat) (f : FN) (v : AV) : AV → AH → Res AV := fun w h => match fldsOf v h with
  | some (k', _) => if k' = kc then f [v, w] h else .stuck
  | none => .stuck
def fOwnA (kc : Nat) (f : FN) (n : ME) (τ : AS) : AV → AH → Res AV := fun v h => (n τ h).bind (fOwnB kc f v)
/-- o[k] by o's own __getitem__ -/
def mOwnIx (kc : Nat) (f : FN) (m n : ME) : ME := fun τ h => (m τ h).bind (fOwnA kc f n τ)
@[simp] theorem mOwnIx_ev {kc : Nat} {f : FN} {h : AH} : mOwnIx kc f m n τ h = (m τ h).bind (fOwnA kc f n τ) := rfl
@[simp] theorem fOwnA_ev {kc : Nat} {f : FN} {v : AV} {h : AH} : fOwnA kc f n τ v h = (n τ h).bind (fOwnB kc f v) := rfl
@[simp] theorem fOwnB_ev {kc : Nat} {f : FN} {v w : AV} {h : AH} : fOwnB kc f v w h = match fldsOf v h with
  | some (k', _) => if k' = kc then f [v, w] h else .stuck
  | none => .stuck := rfl
structure OwnS (K : PySem.W.Frag) (C : Addr) (m : Str) (f : Addr) : Prop where
  at_ : PySem.W.findIn K (.ref C) m = some (some (.ref f))
  fn : PySem.W.isFn K (.ref f) = true
  fi : PySem.W.fnIn K f = true
  sq : PySem.W.noSeq K C = true
theorem ie_ownix {kc k : Nat} {g : Addr} {fd : FuncData} {ps : List Str} {fn : FN} (O : OwnS X.K (G.ca kc) "__getitem__" g) (F : FnOk X.prog X.w X.K X.mg X.base (L2.CX X.prog X.w) k g fd ps (spF G 2 fn)) (hr : Room (k + 1) X.A) (tk : Takes X W) (hb : Binds X.K fd ps [])
    (ha : IE G B W X a m) (hn : IE G B W X b n) (hs : PlainIx b := by exact fun _ _ => rfl) (hsl : ∀ v u, subscripted b true v u = runValue (.builtin "lifetime.subscript" ⟨[v, u], []⟩) := by intro _ _; with_unfolding_all rfl) : IE G B W X (.Subscript a b pos) (mOwnIx kc (chk 2 fn) m n) := by
  refine ⟨fun pins s σ H Q I ⟨c, τ, L, eH, rl, s', q⟩ => ?_⟩
  have h : tI G B W m σ H (fun x H1 => tI G B W n σ H1 (fun y H2 => ∃ (c2 : Cfg) (v w : AV), c2.H = H2 ∧ Rel G c2 ∧ RV G c2 v x ∧ RV G c2 w y ∧ Post G (RV G) c2 (fun k d H' => W k d σ H') Q (fOwnB kc (chk 2 fn) v w c2.h))) :=
    ⟨c, τ, L, eH, rl, s', (Post.bind (R := RV G) q).imp fun u H1 ⟨c1, v, e1, N1, x1, p1⟩ => ⟨c1, τ, L, e1.symm, N1.rel, s'.nxt N1, (Post.bind (R := RV G) p1).imp fun u2 H2 ⟨c2, w, e2, N2, x2, p2⟩ => ⟨c2, v, w, e2.symm, N2.rel, x1.mono N2.mv, x2, p2⟩⟩⟩
  refine Subscript_ (binT ha hn I h fun v u s2 x y H2 I2 rx ry ⟨c2, va, wa, e2, r2, xv, xw, p2⟩ => ?_)
  subst e2
  unfold fOwnB at p2
  cases q1 : fldsOf va c2.h with
  | none => rw [q1] at p2; exact p2.elim
  | some kf =>
    obtain ⟨k', fs⟩ := kf
    rw [q1] at p2
    simp only at p2
    by_cases hk : k' = kc
    · rw [if_pos hk] at p2
      subst hk
      obtain ⟨pp, dx, uf, rfl, ep, xf⟩ := inst_at r2 xv q1
      obtain rfl : v = Value.ref pp := rx
      obtain ⟨mA, J, _⟩ := ins_get I2.hok ep
      obtain ⟨od, J, _⟩ := J.look
      obtain ⟨mm, hF⟩ := I2.fr
      refine PySem.W.sub_K hF I2.ok.mod.kin J O.at_ O.fi O.fn (own_run (us := [.ref pp, u]) (vs := [.ref pp, y]) F hr.in1 I2.env0.in1 tk hb I2 (.cons rfl (.cons ry .nil)) (sp_of r2 (.cons xv (.cons xw .nil)) rfl p2)) (hsl _ _)
    · rw [if_neg hk] at p2; exact p2.elim
/-! ### k in o -/
def bOf : Res AV → Option (Bool × AH)
  | .ok (.bl b) h => some (b, h)
  | _ => none
def kOwnIn (kc : Nat) (neg : Bool) (f : FN) (w v : AV) (h : AH) : Option (AV × AH) := match fldsOf v h with
  | some (k', _) => if k' = kc then (bOf (f [v, w] h)).map fun p => (.bl (if neg then !p.1 else p.1), p.2) else none
  | none => none
def rOwnIn (G : Gx) (kc : Nat) (neg : Bool) (fn : FN) : R2 := fun x y H Q => ∃ (c : Cfg) (w v : AV), c.H = H ∧ Rel G c ∧ RV G c w x ∧ RV G c v y ∧ PostO G c Q (kOwnIn kc neg fn w v c.h)
theorem ao_ownin {kc : Nat} {neg : Bool} {fn : FN} : AO2 G (kOwnIn kc neg fn) (rOwnIn G kc neg fn) := fun c v w u x Q r xv xw p => ⟨c, v, w, rfl, r, xv, xw, p⟩
theorem own_b {A : Around} {k N : Nat} {g : Addr} {fd : FuncData} {ps : List Str} {fn : FN} {pins : List (Addr × Obj)} {s : Shared} {Qb : Value → Shared → Prop} {us : List Value} {vs : List AV} {ws : List V} {E : Value → Shared → Prop} {Q : AV → Prop} (F : FnOk X.prog X.w X.K X.mg X.base (L2.CX X.prog X.w) k g fd ps (spF G N fn)) (hr : Room k A) (e0 : Env0 X.prog X.w X.K X.mg X.base A X.stack s c.H) (hb : Binds X.K fd ps []) (I : Inv X pins σ c.H s) (r : Vals ws us) (rl : Rel G c) (xs : RVs G c vs ws) (hl : vs.length = N)
    {bb : Bool} {h' : AH} (e : bOf (fn vs c.h) = some (bb, h')) (K : ∀ u s' c', Nxt G c c' → c'.h = h' → Inv X pins σ c'.H s' → u = .bool bb → Qb u s') : wpAny (model X.prog X.w) A (call (.ref g) us) Qb E s := by
  have e2 : fn vs c.h = .ok (.bl bb) h' := by
    unfold bOf at e
    split at e
    · cases e; assumption
    · cases e
  have hsp : spF G N fn ws c.H (fun u H' => ∃ c', Nxt G c c' ∧ c'.h = h' ∧ c'.H = H' ∧ u = .bl bb) (fun _ _ _ => False) := sp_of rl xs hl (by rw [e2]; intro c' u N1 e1 x1; cases x1; exact ⟨c', N1, e1, rfl, rfl⟩)
  have hl2 : (us ++ []).length = ps.length := by
    rw [List.append_nil, ← r.length]
    exact F.len _ _ _ _ hsp
  have hb2 := hb s us I.kIn hl2
  rw [List.append_nil] at hb2
  refine wpAny_call (codeAny_mono (F.run A X.stack s c.H ⟨us, []⟩ us ws _ (fun _ _ _ => False) hr e0 hb2 r hsp) fun r s' hq => ?_)
  cases r with
  | error e => exact (cx_false hq).elim
  | ok fl =>
    cases fl with
    | ret u =>
      obtain ⟨z, H', I', rz, c', N1, e1, eH, ez⟩ := I.after hq
      subst ez
      subst eH
      exact K u s' c' N1 e1 I' rz
    | next => exact False.elim hq
    | brk => exact False.elim hq
    | cont => exact False.elim hq
theorem op_ownin {kc k : Nat} {g : Addr} {fd : FuncData} {ps : List Str} {fn : FN} (O : OwnS X.K (G.ca kc) "__contains__" g) (F : FnOk X.prog X.w X.K X.mg X.base (L2.CX X.prog X.w) k g fd ps (spF G 2 fn)) (hr : Room k X.A) (hb : Binds X.K fd ps []) : OpR X (compareOp .In) (rOwnIn G kc false (chk 2 fn)) := by
  intro pins s σ H x y u1 u2 Q I rx ry h
  obtain ⟨c, w, v, rfl, r, xw, xv, p⟩ := h
  unfold kOwnIn at p
  cases q1 : fldsOf v c.h with
  | none => rw [q1] at p; exact p.elim
  | some kf =>
    obtain ⟨k', fs⟩ := kf
    rw [q1] at p
    simp only at p
    by_cases hk : k' = kc
    · rw [if_pos hk] at p
      subst hk
      obtain ⟨pp, dx, uf, rfl, ep, xf⟩ := inst_at r xv q1
      obtain rfl : u2 = Value.ref pp := ry
      obtain ⟨mA, J, _⟩ := ins_get I.hok ep
      obtain ⟨od, J, _⟩ := J.look
      obtain ⟨mm, hF⟩ := I.fr
      cases e : bOf (chk 2 fn [v, w] c.h) with
      | none => rw [e] at p; exact p.elim
      | some bh =>
        obtain ⟨bb, h'⟩ := bh
        rw [e] at p
        have p : PostO G c Q (some (.bl bb, h')) := by simpa using p
        exact PySem.W.in_K hF I.ok.mod.kin J O.at_ O.fn (own_b (us := [.ref pp, u1]) (ws := [.ref pp, x]) (vs := [v, w]) (Q := fun _ => True) F hr I.env0 hb I (.cons rfl (.cons rx .nil)) r (.cons xv (.cons xw .nil)) rfl e fun u s' c' N1 e1 I' eu => by
          subst eu
          refine wpAny_truthy_bool ?_
          exact ⟨.bl bb, c'.H, I', rfl, p c' _ N1 e1 .bl⟩)
    · rw [if_neg hk] at p; exact p.elim
theorem op_ownnotin {kc k : Nat} {g : Addr} {fd : FuncData} {ps : List Str} {fn : FN} (O : OwnS X.K (G.ca kc) "__contains__" g) (F : FnOk X.prog X.w X.K X.mg X.base (L2.CX X.prog X.w) k g fd ps (spF G 2 fn)) (hr : Room k X.A) (hb : Binds X.K fd ps []) : OpR X (compareOp .NotIn) (rOwnIn G kc true (chk 2 fn)) := by
  intro pins s σ H x y u1 u2 Q I rx ry h
  obtain ⟨c, w, v, rfl, r, xw, xv, p⟩ := h
  unfold kOwnIn at p
  cases q1 : fldsOf v c.h with
  | none => rw [q1] at p; exact p.elim
  | some kf =>
    obtain ⟨k', fs⟩ := kf
    rw [q1] at p
    simp only at p
    by_cases hk : k' = kc
    · rw [if_pos hk] at p
      subst hk
      obtain ⟨pp, dx, uf, rfl, ep, xf⟩ := inst_at r xv q1
      obtain rfl : u2 = Value.ref pp := ry
      obtain ⟨mA, J, _⟩ := ins_get I.hok ep
      obtain ⟨od, J, _⟩ := J.look
      obtain ⟨mm, hF⟩ := I.fr
      cases e : bOf (chk 2 fn [v, w] c.h) with
      | none => rw [e] at p; exact p.elim
      | some bh =>
        obtain ⟨bb, h'⟩ := bh
        rw [e] at p
        have p : PostO G c Q (some (.bl (!bb), h')) := by simpa using p
        exact PySem.W.notIn_K hF I.ok.mod.kin J O.at_ O.fn (own_b (us := [.ref pp, u1]) (ws := [.ref pp, x]) (vs := [v, w]) (Q := fun _ => True) F hr I.env0 hb I (.cons rfl (.cons rx .nil)) r (.cons xv (.cons xw .nil)) rfl e fun u s' c' N1 e1 I' eu => by
          subst eu
          refine wpAny_truthy_bool ?_
          exact ⟨.bl (!bb), c'.H, I', rfl, p c' _ N1 e1 .bl⟩)
    · rw [if_neg hk] at p; exact p.elim
end
end PI
/-! PIzt: zip of two tuples or two lists; tuple(..); list.index among texts; comprehensions of two loops. -/
namespace PI
open PySem PySem.Spec PyProof.Rows L2 ClX
section
variable {G : Gx} {B : Bx} {zs : Addr → Prop} {W : WX} {X : Cx} {c c' : Cfg} {L : List Addr} {τ : AS} {σ : SL} {pos pos' p apos cpos : Pos} {e e2 o a : Expr} {es : List Expr} {m n mo me : ME} {ma mi mi1 mk : MA} {mt mt1 : MT} {x s : Str} {i : Nat} {vs vs1 : List Nat}
/-! ### zip -/
def zipA (xs ys : List AV) : List AV := List.zipWith (fun a b => .tup [a, b]) xs ys
theorem zip_nth {xs ys : List AV} {i : Nat} {v : AV} (e : (zipA xs ys)[i]? = some v) : ∃ a b, xs[i]? = some a ∧ ys[i]? = some b ∧ v = .tup [a, b] := by
  unfold zipA at e
  rw [List.getElem?_zipWith] at e
  cases h1 : xs[i]? with
  | none => rw [h1] at e; simp at e
  | some a =>
    cases h2 : ys[i]? with
    | none => rw [h1, h2] at e; simp at e
    | some b => rw [h1, h2] at e; simp at e; exact ⟨a, b, rfl, rfl, e.symm⟩
theorem walk_zipT {K : PySem.W.Frag} {a b : Addr} {xs ys : List V} : Walk (RZ.ItzT K a b) (min xs.length ys.length) (fun H => SqT K H a xs ∧ SqT K H b ys) (YPair (fun i => xs[i]?) (fun i => ys[i]?)) := by
  refine ⟨fun i _ hi q => ⟨xs, ys, xs[i], ys[i], q.1, q.2, by simp, by simp⟩, fun _ q => ⟨xs, ys, q.1, q.2, by omega⟩, fun i H v H' _ q y => ?_⟩
  obtain ⟨T, x, z, h1, h2, h3, h4, h5⟩ := y
  exact ⟨T, x, z, h1, h2, h3, h4 xs q.1, h5 ys q.2⟩
theorem walk_zipL {K : PySem.W.Frag} {a b : Addr} {xs ys : List V} : Walk (Itz K a b) (min xs.length ys.length) (fun H => SqL K H a xs ∧ SqL K H b ys) (YPair (fun i => xs[i]?) (fun i => ys[i]?)) := by
  refine ⟨fun i _ hi q => ⟨xs, ys, xs[i], ys[i], q.1, q.2, by simp, by simp⟩, fun _ q => ⟨xs, ys, q.1, q.2, by omega⟩, fun i H v H' _ q y => ?_⟩
  obtain ⟨T, x, z, h1, h2, h3, h4, h5⟩ := y
  exact ⟨T, x, z, h1, h2, h3, h4 xs q.1, h5 ys q.2⟩
theorem sqT_mv {K : PySem.W.Frag} (hK : K = G.K) {xs : List AV} {a : Addr} (x : RV G c (.tup xs) (.ref a)) : ∃ us, (∀ c', Mv c c' → SqT K c'.H a us) ∧ RVs G c xs us := by
  subst hK
  cases x with
  | tup r f y => exact ⟨_, fun c' M => .inl (M.rd r f).1, y⟩
  | tupK k y => exact ⟨_, fun c' M => .inr k, y⟩
theorem sqL_mv {K : PySem.W.Frag} (hK : K = G.K) {xs : List AV} {a : Addr} (x : RV G c (.fl xs) (.ref a)) : ∃ us, (∀ c', Mv c c' → SqL K c'.H a us) ∧ RVs G c xs us := by
  subst hK
  cases x with
  | fl r f y => exact ⟨_, fun c' M => .inl (M.rd r f).1, y⟩
  | flK k y => exact ⟨_, fun c' M => .inr k, y⟩
theorem zip_yield {xs ys : List AV} {us vs : List V} (y1 : RVs G c xs us) (y2 : RVs G c ys vs) {c' : Cfg} {i : Nat} {x : V} {H'' : Hp} {v : AV} (M : Mv c c') (r : Rel G c') (e : (zipA xs ys)[i]? = some v) (q : YPair (fun i => us[i]?) (fun i => vs[i]?) i c'.H x H'') : Nxt G c' { c' with H := H'' } ∧ RV G { c' with H := H'' } v x := by
  obtain ⟨T, z, w, rfl, hT, rfl, e1, e2⟩ := q
  obtain ⟨a, b, ea, eb, rfl⟩ := zip_nth e
  obtain ⟨u, e3, z1⟩ := y1.nth ea
  obtain ⟨u2, e4, z2⟩ := y2.nth eb
  have e1' : us[i]? = some z := e1
  have e2' : vs[i]? = some w := e2
  rw [e3] at e1'; cases e1'
  rw [e4] at e2'; cases e2'
  have N := Nxt.temp (O := .tup [z, w]) r hT
  exact ⟨N, .tup (.inl upd_same) (r.frz hT) (.cons ((z1.mono M).mono N.mv) (.cons ((z2.mono M).mono N.mv) .nil))⟩
theorem goes_zipT {a b : Addr} {xs ys : List AV} {K : PySem.W.Frag} (hK : K = G.K) (x : RV G c (.tup xs) (.ref a)) (y : RV G c (.tup ys) (.ref b)) : Goes G c (RZ.ItzT K a b) (zipA xs ys) := by
  obtain ⟨us, h1, y1⟩ := sqT_mv hK x
  obtain ⟨vs, h2, y2⟩ := sqT_mv hK y
  have hl : (zipA xs ys).length = min us.length vs.length := by unfold zipA; simp [y1.length, y2.length]
  exact ⟨fun H => SqT K H a us ∧ SqT K H b vs, YPair (fun i => us[i]?) (fun i => vs[i]?), by rw [hl]; exact walk_zipT, fun c' M => ⟨h1 c' M, h2 c' M⟩, fun c' i x H'' v M r e q => zip_yield y1 y2 M r e q⟩
theorem goes_zipL {a b : Addr} {xs ys : List AV} {K : PySem.W.Frag} (hK : K = G.K) (x : RV G c (.fl xs) (.ref a)) (y : RV G c (.fl ys) (.ref b)) : Goes G c (Itz K a b) (zipA xs ys) := by
  obtain ⟨us, h1, y1⟩ := sqL_mv hK x
  obtain ⟨vs, h2, y2⟩ := sqL_mv hK y
  have hl : (zipA xs ys).length = min us.length vs.length := by unfold zipA; simp [y1.length, y2.length]
  exact ⟨fun H => SqL K H a us ∧ SqL K H b vs, YPair (fun i => us[i]?) (fun i => vs[i]?), by rw [hl]; exact walk_zipL, fun c' M => ⟨h1 c' M, h2 c' M⟩, fun c' i x H'' v M r e q => zip_yield y1 y2 M r e q⟩
def mZipA (ma : MA) : MA := fun τ h => (ma τ h).bind fun vs h => match vs with
  | [.fl xs, .fl ys] => .ok (zipA xs ys) h
  | [.tup xs, .tup ys] => .ok (zipA xs ys) h
  | _ => .stuck
theorem ii_zipA {elts : List Expr} {kk : Nat} {tpos : Pos} (hK : X.K = G.K) (hm : X.mg "zip" = none) (ha : IA G B W X [e, e2] ma) (hg : Gl X "zip" := by rfl) (hs : starEach [e, e2] X.env = (false, eval e X.env) :: starEach [e2] X.env := by rfl) (hpl : (backTo pos (starEach [e2] X.env)).any (·.1) = false := by rfl) :
    II G B W X (.Tuple elts kk tpos) (.Call (.Name "zip" p) [e, e2] [] pos) (mZipA ma) := PI.imp (RZ.pi_zipA hg hm ha hs hpl) fun σ H R ⟨c, τ, L, eH, r, s, q⟩ => by
  refine ⟨c, τ, L, eH, r, s, (Post.bind (R := RVs G) q).imp fun u H1 ⟨c1, v, e1, N1, x1, p1⟩ => ?_⟩
  subst e1
  cases x1 with
  | nil => exact p1.elim
  | @cons y ys u1 us1 y1 t1 =>
    cases t1 with
    | nil => exact (by cases y <;> exact p1.elim)
    | @cons z zs' u2 us2 z1 t2 =>
      cases t2 with
      | cons _ _ => exact (by cases y <;> cases z <;> exact p1.elim)
      | nil =>
        cases y with
        | fl xs =>
          cases z with
          | fl ys =>
            obtain ⟨a, us, rfl, q1, _⟩ := rv_list hK y1
            obtain ⟨b, vs, rfl, q2, _⟩ := rv_list hK z1
            exact ⟨a, b, us, vs, rfl, .inl ⟨q1, q2, p1 c1 _ (.refl N1.rel) rfl (goes_zipL hK y1 z1)⟩⟩
          | _ => exact p1.elim
        | tup xs =>
          cases z with
          | tup ys =>
            obtain ⟨a, us, rfl, q1, _⟩ := rv_tup hK y1
            obtain ⟨b, vs, rfl, q2, _⟩ := rv_tup hK z1
            exact ⟨a, b, us, vs, rfl, .inr ⟨q1, q2, p1 c1 _ (.refl N1.rel) rfl (goes_zipT hK y1 z1)⟩⟩
          | _ => exact p1.elim
        | _ => exact p1.elim
/-! ### tuple(..) -/
def kTupF (vs : List AV) (h : AH) : Option (AV × AH) := match vs with
  | [.fl xs] => some (.tup xs, h)
  | [.tup xs] => some (.tup xs, h)
  | _ => none
theorem ao_tupF (hK : X.K = G.K) : AOL G kTupF (fun xs H Q => ∃ p ys, xs = [.ref p] ∧ ((SqL X.K H p ys ∧ ∀ l, H l = none → Q (.ref l) (upd H l (.tup ys))) ∨ (SqT X.K H p ys ∧ Q (.ref p) H))) := fun c v us Q r x p => by
  unfold kTupF at p
  split at p
  · cases x with
    | cons x xr =>
      cases xr
      obtain ⟨a, us, rfl, q1, y⟩ := rv_list hK x
      exact ⟨a, us, rfl, .inl ⟨q1, post_tup r p y⟩⟩
  · cases x with
    | cons x xr =>
      cases xr
      obtain ⟨a, us, rfl, q1, y⟩ := rv_tup hK x
      exact ⟨a, us, rfl, .inr ⟨q1, p c _ (.refl r) rfl x⟩⟩
  · exact p.elim
/-! ### list.index -/
def idxS (z : Str) : Nat → List Str → Option Nat
  | _, [] => none
  | i, y :: r => if y = z then some i else idxS z (i + 1) r
def mBMf (k : List AV → List AV → AH → Option (AV × AH)) (mo : ME) (ma : MA) : ME := fun τ h => (mo τ h).bind fun v h => match v with
  | .fl xs => (ma τ h).bind fun vs h => .of (k xs vs h)
  | _ => .stuck
def kIdxS (xs vs : List AV) (h : AH) : Option (AV × AH) := match vs with
  | [.str z] => (strsOf xs).bind fun ys => (idxS z 0 ys).map fun j => (.int (j : Nat), h)
  | _ => none
theorem idxS_spec {z : Str} : ∀ {ys : List Str} {i j : Nat}, idxS z i ys = some j → ∃ d, j = i + d ∧ ys[d]? = some z ∧ ∀ m y, m < d → ys[m]? = some y → y ≠ z
  | [], _, _, e => by cases e
  | y :: r, i, j, e => by
    unfold idxS at e
    by_cases h : y = z
    · rw [if_pos h] at e
      cases e
      exact ⟨0, rfl, by simp [h], fun m y hm _ => absurd hm (by omega)⟩
    · rw [if_neg h] at e
      obtain ⟨d, e1, e2, e3⟩ := idxS_spec e
      refine ⟨d + 1, by omega, by simpa using e2, fun m y' hm hy => ?_⟩
      cases m with
      | zero => simp at hy; rw [← hy]; exact h
      | succ m => exact e3 m y' (by omega) (by simpa using hy)
theorem ie_idxS (hK : X.K = G.K) (ho : IE G B W X o mo) (ha : IA G B W X [e] ma)
    (hbase : attributeBase o "index" X.env (eval o X.env) = eval o X.env := by rfl)
    (hfew : ((backTo cpos (starEach [e] X.env)).all (fun x => !x.1) && (backToKw cpos (keywordEach [] X.env)).all (fun x => x.1.isSome)
      && decide ([e].length + ([] : List Keyword).length + (if ([] : List Keyword).isEmpty then 0 else 1) < 30)) = true := by rfl)
    (hline : (apos.endLine == cpos.line) = true := by rfl) (hs : starEach [e] X.env = (false, eval e X.env) :: starEach [] X.env := by rfl) (hplain : (backTo cpos (starEach [] X.env)).any (·.1) = false := by rfl) :
    IE G B W X (.Call (.Attribute o "index" apos) [e] [] cpos) (mBMf kIdxS mo ma) :=
  PE.imp (pe_bm PySem.F.plainAttrs_list PySem.F.slot_list_index PySem.F.type_list_index mt_index ho ha hbase hfew hline hs hplain) fun σ H Q ⟨c, τ, L, eH, rl, s, p⟩ => by
  refine ⟨c, τ, L, eH, rl, s, (Post.bind (R := RV G) p).imp fun u H1 ⟨c1, v, e1, N1, x1, p1⟩ => ?_⟩
  subst e1
  cases v with
  | fl xs =>
    simp only at p1
    obtain ⟨a, us, rfl, q1, y⟩ := rv_list hK x1
    refine ⟨.inl ⟨rfl, us, q1⟩, c1, τ, L, rfl, N1.rel, s.nxt N1, (Post.bind (R := RVs G) p1).imp fun u2 H2 ⟨c2, w, e2, N2, x2, p2⟩ => ?_⟩
    subst e2
    obtain ⟨a', us', ea, q2, y'⟩ := rv_list hK (x1.mono N2.mv)
    cases ea
    replace p2 := PostO.of p2
    unfold kIdxS at p2
    split at p2
    · rename_i z
      cases hq : strsOf xs with
      | none => rw [hq] at p2; exact p2.elim
      | some ys =>
        rw [hq] at p2
        cases hj : idxS z 0 ys with
        | none => simp only [Option.bind_some, hj, Option.map_none] at p2; exact p2.elim
        | some j =>
          obtain ⟨d, e3, e4, e5⟩ := idxS_spec hj
          have e3 : j = d := by omega
          subst e3
          have hu := strs_rv hq y'
          subst hu
          cases x2 with
          | cons xz xr =>
            cases xr
            cases xz with
            | str kz =>
              refine ⟨a, ys.map V.str, .str z, j, .str z, rfl, rfl, q2, rfl, by simp [flatV], by simp [e4], by simp [eqV], fun m z' hm hz => ?_, ?_⟩
              · rw [List.getElem?_map] at hz
                cases hy : ys[m]? with
                | none => rw [hy] at hz; cases hz
                | some y0 =>
                  rw [hy] at hz
                  cases hz
                  have := e5 m y0 hm hy
                  simp [eqV, this]
              · have p3 : PostO G c2 Q (some (.int (j : Nat), c2.h)) := by simpa [hj] using p2
                exact p3 c2 _ (.refl N2.rel) rfl .int
    · exact p2.elim
  | _ => exact p1.elim
end
end PI
/-! PIl2: comprehensions of two loops. -/
namespace PI
open PySem PySem.Spec PyProof.Rows L2 ClX
section
def lcI (g1 : MG) (mt1 : MT) (me : ME) (τ : AS) (k : List AV → AH → Res AV) : List AV → List AV → AH → Res AV
  | [], acc, h => k acc h
  | v :: r, acc, h => match g1 v τ with
    | none => .stuck
    | some τ3 => (noX (mt1 τ3 h)).bind fun b h => if b then (noX (me τ3 h)).bind fun y h => if small (acc.length + 1) then lcI g1 mt1 me τ k r (acc ++ [y]) h else .stuck else lcI g1 mt1 me τ k r acc h
def lcO (vs1 : List Nat) (g : MG) (mt : MT) (mi1 : MA) (g1 : MG) (mt1 : MT) (me : ME) (τ : AS) : List AV → List AV → AH → Res AV
  | [], acc, h => .ok (.fl acc) h
  | v :: r, acc, h => match g v τ with
    | none => .stuck
    | some τ2 => (noX (mt τ2 h)).bind fun b h => if b then (noX (mi1 τ2 h)).bind fun xs h => lcI g1 mt1 me (wipeA τ2 vs1) (lcO vs1 g mt mi1 g1 mt1 me τ r) xs acc h else lcO vs1 g mt mi1 g1 mt1 me τ r acc h
def mLc2 (vs vs1 : List Nat) (g : MG) (mi : MA) (mt : MT) (mi1 : MA) (g1 : MG) (mt1 : MT) (me : ME) : ME := fun τ h => (mi τ h).bind fun xs h => lcO vs1 g mt mi1 g1 mt1 me (wipeA τ vs) xs [] h
variable {G : Gx} {B : Bx} {zs : Addr → Prop} {W : WX} {X : Cx} {c c' : Cfg} {L : List Addr} {τ : AS} {σ : SL} {pos pos' p apos cpos : Pos} {e e2 o a : Expr} {es : List Expr} {m n mo me : ME} {ma mi mi1 mk : MA} {mt mt1 : MT} {x s : Str} {i : Nat} {vs vs1 : List Nat}
theorem lc2_ok {g g1 : MG} {σ : SL} {H : Hp} {Q : VK} (vs vs1 : List Nat) (t : tI G B W (mLc2 vs vs1 g mi mt mi1 g1 mt1 me) σ H Q) : tLc2 (tIi G B W mi) (tGe G B vs g) (tIt G B W0 mt) (tIi G B W0 mi1) (tGe G B vs1 g1) (tIt G B W0 mt1) (tI G B W0 me) vs vs1 σ H Q := by
  obtain ⟨c, τ, L, eH, rl, s, p⟩ := t
  refine ⟨c, τ, L, eH, rl, s, (Post.bind (R := fun c' (vs : List AV) (J : It) => Goes G c' J vs) p).imp fun J H1 ⟨c1, xs, e1, N1, ⟨Gd, Y, w, hG, hY⟩, p1⟩ => ?_⟩
  subst e1
  have s1 := s.nxt N1
  intro D hD
  obtain ⟨L0, hL0, sw⟩ := s1.wipeAll vs
  have nDZ : ¬ c1.Z D := N1.rel.nz hD
  have nDL : ∀ a, a ∈ L0 → c1.Z a := fun a h => s1.z a (hL0 a h)
  refine ⟨fun i k H => ∃ (c2 : Cfg) (acc : List AV) (us : List V), c2.H = H ∧ k + i = xs.length ∧ Rel G c2 ∧ Mv c1 c2 ∧ (∀ a, c2.Z a ↔ (c1.Z a ∨ a = D)) ∧ (∀ a, c1.Z a → c2.H a = c1.H a) ∧ c2.H D = some (.lst us) ∧ RVs G c2 acc us ∧
      Post G (RV G) c1 (fun k d H' => W k d σ H') Q (lcO vs1 g mt mi1 g1 mt1 me (wipeA τ vs) (xs.drop i) acc c2.h),
    ⟨xs.length, { c1 with Z := fun a => c1.Z a ∨ a = D, H := upd c1.H D (.lst []) }, [], [], rfl, rfl, N1.rel.mine hD, Mv.mine hD, fun a => Iff.rfl, fun a z => upd_ne fun y => nDZ (by rw [← y]; exact z), upd_same, .nil, p1⟩, ?_⟩
  rintro i k H ⟨c2, acc, us, rfl, hk, r2, M2, hZ, hH, hD2, y2, p2⟩
  have hg2 := hG c2 M2
  by_cases hi2 : i < xs.length
  · refine .inr ⟨w.goes i c2.H hi2 hg2, fun H' => ∃ k', k' < k ∧ ∃ (c3 : Cfg) (acc : List AV) (us : List V), c3.H = H' ∧ k' + (i + 1) = xs.length ∧ Rel G c3 ∧ Mv c1 c3 ∧ (∀ a, c3.Z a ↔ (c1.Z a ∨ a = D)) ∧ (∀ a, c1.Z a → c3.H a = c1.H a) ∧ c3.H D = some (.lst us) ∧ RVs G c3 acc us ∧
        Post G (RV G) c1 (fun k d H' => W k d σ H') Q (lcO vs1 g mt mi1 g1 mt1 me (wipeA τ vs) (xs.drop (i + 1)) acc c3.h), fun H' h => h, fun x H' y => ?_⟩
    obtain ⟨N3, x3⟩ := hY c2 i x H' xs[i] M2 r2 (by simp [hi2]) (w.yields i c2.H x H' hi2 hg2 y)
    rw [List.drop_eq_getElem_cons hi2] at p2
    unfold lcO at p2
    cases q : g xs[i] (wipeA τ vs) with
    | none => rw [q] at p2; exact p2.elim
    | some τ2 =>
      rw [q] at p2
      simp only at p2
      have cz : ∀ a, c1.Z a → c2.Z a := fun a z => (hZ a).mpr (.inl z)
      have sw2 : RS G B c2 L0 (wipeA τ vs) (wipe σ vs) := sw.mono M2 fun a h => ⟨cz a (nDL a h), hH a (nDL a h)⟩
      have sw3 := sw2.nxt N3
      have rest : ∀ {c4 : Cfg}, Nxt G c2 c4 → (Rel G c4 ∧ Mv c1 c4 ∧ (∀ a, c4.Z a ↔ (c1.Z a ∨ a = D)) ∧ (∀ a, c1.Z a → c4.H a = c1.H a) ∧ c4.H D = some (.lst us) ∧ RVs G c4 acc us) := fun {c4} N => by
        refine ⟨N.rel, M2.trans N.mv, fun a => by rw [N.z]; exact hZ a, fun a z => (N.zz a (cz a z)).trans (hH a z), (N.zz D ((hZ D).mpr (.inr rfl))).trans hD2, y2.mono N.mv⟩
      refine ⟨{ c2 with H := H' }, _, L0, xs[i], τ2, rfl, N3.rel, sw3, x3, q, fun σ2 s2 hw => ⟨hw.trans wipe_idem, { c2 with H := H' }, τ2, L0, rfl, N3.rel, s2, ?_⟩⟩
      revert p2
      cases eT : mt τ2 c2.h with
      | exc _ _ _ => exact fun p2 => p2.elim
      | stuck => exact fun p2 => p2.elim
      | ok b h4 =>
        intro p2 c4 u4 N4 e4 x4
        subst x4
        subst e4
        have p2 : Post G (RV G) c1 (fun k d H' => W k d σ H') Q (if b = true then (noX (mi1 τ2 c4.h)).bind fun xs1 h => lcI g1 mt1 me (wipeA τ2 vs1) (lcO vs1 g mt mi1 g1 mt1 me (wipeA τ vs) (xs.drop (i + 1))) xs1 acc h else lcO vs1 g mt mi1 g1 mt1 me (wipeA τ vs) (xs.drop (i + 1)) acc c4.h) := p2
        have N24 := N3.trans N4
        cases b with
        | false =>
          rw [if_neg Bool.false_ne_true] at p2 ⊢
          obtain ⟨a1, a2, a3, a4, a5, a6⟩ := rest N24
          exact ⟨k - 1, by omega, c4, acc, us, rfl, by omega, a1, a2, a3, a4, a5, a6, p2⟩
        | true =>
          rw [if_pos rfl] at p2 ⊢
          refine ⟨c4, τ2, L0, rfl, N4.rel, s2.nxt N4, ?_⟩
          revert p2
          cases eE : mi1 τ2 c4.h with
          | exc _ _ _ => exact fun p2 => p2.elim
          | stuck => exact fun p2 => p2.elim
          | ok xs1 h5 =>
            intro p2 c5 J1 N5 e5 x5
            subst e5
            obtain ⟨Gd1, Y1, w1, hG1, hY1⟩ := x5
            have p2 : Post G (RV G) c1 (fun k d H' => W k d σ H') Q (lcI g1 mt1 me (wipeA τ2 vs1) (lcO vs1 g mt mi1 g1 mt1 me (wipeA τ vs) (xs.drop (i + 1))) xs1 acc c5.h) := p2
            have N25 := N24.trans N5
            obtain ⟨b1, b2, b3, b4, b5, b6⟩ := rest N25
            have s5 : RS G B c5 L0 τ2 σ2 := (s2.nxt N4).nxt N5
            obtain ⟨L1, hL1, sv⟩ := s5.wipeAll vs1
            refine ⟨fun j l H => ∃ (c6 : Cfg) (acc : List AV) (us : List V), c6.H = H ∧ l + j = xs1.length ∧ Rel G c6 ∧ Mv c5 c6 ∧ (∀ a, c6.Z a ↔ (c1.Z a ∨ a = D)) ∧ (∀ a, c1.Z a → c6.H a = c1.H a) ∧ c6.H D = some (.lst us) ∧ RVs G c6 acc us ∧
                Post G (RV G) c1 (fun k d H' => W k d σ H') Q (lcI g1 mt1 me (wipeA τ2 vs1) (lcO vs1 g mt mi1 g1 mt1 me (wipeA τ vs) (xs.drop (i + 1))) (xs1.drop j) acc c6.h),
              ⟨xs1.length, c5, acc, us, rfl, rfl, b1, .refl, b3, b4, b5, b6, p2⟩, ?_⟩
            rintro j l H6 ⟨c6, acc6, us6, rfl, hl6, r6, M6, hZ6, hH6, hD6, y6, p6⟩
            have hg6 := hG1 c6 M6
            by_cases hj : j < xs1.length
            · refine .inr ⟨w1.goes j c6.H hj hg6, fun H' => ∃ l', l' < l ∧ ∃ (c7 : Cfg) (acc : List AV) (us : List V), c7.H = H' ∧ l' + (j + 1) = xs1.length ∧ Rel G c7 ∧ Mv c5 c7 ∧ (∀ a, c7.Z a ↔ (c1.Z a ∨ a = D)) ∧ (∀ a, c1.Z a → c7.H a = c1.H a) ∧ c7.H D = some (.lst us) ∧ RVs G c7 acc us ∧
                  Post G (RV G) c1 (fun k d H' => W k d σ H') Q (lcI g1 mt1 me (wipeA τ2 vs1) (lcO vs1 g mt mi1 g1 mt1 me (wipeA τ vs) (xs.drop (i + 1))) (xs1.drop (j + 1)) acc c7.h), fun H' h => h, fun x H' y => ?_⟩
              obtain ⟨N7, x7⟩ := hY1 c6 j x H' xs1[j] M6 r6 (by simp [hj]) (w1.yields j c6.H x H' hj hg6 y)
              rw [List.drop_eq_getElem_cons hj] at p6
              unfold lcI at p6
              cases q7 : g1 xs1[j] (wipeA τ2 vs1) with
              | none => rw [q7] at p6; exact p6.elim
              | some τ3 =>
                rw [q7] at p6
                simp only at p6
                have cz6 : ∀ a, c1.Z a → c6.Z a := fun a z => (hZ6 a).mpr (.inl z)
                have sv6 : RS G B c6 L1 (wipeA τ2 vs1) (wipe σ2 vs1) := sv.mono M6 fun a h => ⟨cz6 a (nDL a (hL1 a h)), (hH6 a (nDL a (hL1 a h))).trans (b4 a (nDL a (hL1 a h))).symm⟩
                have sv7 := sv6.nxt N7
                have rest6 : ∀ {c8 : Cfg}, Nxt G c6 c8 → (Rel G c8 ∧ Mv c5 c8 ∧ (∀ a, c8.Z a ↔ (c1.Z a ∨ a = D)) ∧ (∀ a, c1.Z a → c8.H a = c1.H a) ∧ c8.H D = some (.lst us6) ∧ RVs G c8 acc6 us6) := fun {c8} N => by
                  refine ⟨N.rel, M6.trans N.mv, fun a => by rw [N.z]; exact hZ6 a, fun a z => (N.zz a (cz6 a z)).trans (hH6 a z), (N.zz D ((hZ6 D).mpr (.inr rfl))).trans hD6, y6.mono N.mv⟩
                refine ⟨{ c6 with H := H' }, _, L1, xs1[j], τ3, rfl, N7.rel, sv7, x7, q7, fun σ3 s3 hw3 => ⟨hw3.trans wipe_idem, { c6 with H := H' }, τ3, L1, rfl, N7.rel, s3, ?_⟩⟩
                revert p6
                cases eT1 : mt1 τ3 c6.h with
                | exc _ _ _ => exact fun p6 => p6.elim
                | stuck => exact fun p6 => p6.elim
                | ok b8 h8 =>
                  intro p6 c8 u8 N8 e8 x8
                  subst x8
                  subst e8
                  have p6 : Post G (RV G) c1 (fun k d H' => W k d σ H') Q (if b8 = true then (noX (me τ3 c8.h)).bind fun y h => if small (acc6.length + 1) then lcI g1 mt1 me (wipeA τ2 vs1) (lcO vs1 g mt mi1 g1 mt1 me (wipeA τ vs) (xs.drop (i + 1))) (xs1.drop (j + 1)) (acc6 ++ [y]) h else .stuck else lcI g1 mt1 me (wipeA τ2 vs1) (lcO vs1 g mt mi1 g1 mt1 me (wipeA τ vs) (xs.drop (i + 1))) (xs1.drop (j + 1)) acc6 c8.h) := p6
                  have N78 := N7.trans N8
                  cases b8 with
                  | false =>
                    rw [if_neg Bool.false_ne_true] at p6 ⊢
                    obtain ⟨a1, a2, a3, a4, a5, a6⟩ := rest6 N78
                    exact ⟨l - 1, by omega, c8, acc6, us6, rfl, by omega, a1, a2, a3, a4, a5, a6, p6⟩
                  | true =>
                    rw [if_pos rfl] at p6 ⊢
                    refine ⟨c8, τ3, L1, rfl, N8.rel, s3.nxt N8, ?_⟩
                    revert p6
                    cases eE1 : me τ3 c8.h with
                    | exc _ _ _ => exact fun p6 => p6.elim
                    | stuck => exact fun p6 => p6.elim
                    | ok y9 h9 =>
                      intro p6 c9 u9 N9 e9 x9
                      subst e9
                      have p6 : Post G (RV G) c1 (fun k d H' => W k d σ H') Q (if small (acc6.length + 1) then lcI g1 mt1 me (wipeA τ2 vs1) (lcO vs1 g mt mi1 g1 mt1 me (wipeA τ vs) (xs.drop (i + 1))) (xs1.drop (j + 1)) (acc6 ++ [y9]) c9.h else .stuck) := p6
                      by_cases hl : small (acc6.length + 1) = true
                      · rw [if_pos hl] at p6
                        obtain ⟨a1, a2, a3, a4, a5, a6⟩ := rest6 (N78.trans N9)
                        refine ⟨us6, a5, by rw [← a6.length]; exact Nat.lt_of_lt_of_le (Nat.lt_succ_self _) (small_le hl), l - 1, by omega, { c9 with H := upd c9.H D (.lst (us6 ++ [u9])) }, acc6 ++ [y9], us6 ++ [u9], rfl, by omega, ?_⟩
                        have zD : c9.Z D := (a3 D).mpr (.inr rfl)
                        have M9 := Mv.turn (O := .lst (us6 ++ [u9])) zD
                        exact ⟨a1.turn zD, a2.trans M9, a3, fun a z => (upd_ne fun y => nDZ (by rw [← y]; exact z)).trans (a4 a z), upd_same, (RVs.append a6 (.cons x9 .nil)).mono M9, p6⟩
                      · rw [if_neg hl] at p6; exact p6.elim
            · have hj0 : j = xs1.length := by omega
              subst hj0
              refine .inl ⟨w1.stops c6.H hg6, ?_⟩
              rw [List.drop_length] at p6
              exact ⟨k - 1, by omega, c6, acc6, us6, rfl, by omega, r6, b2.trans M6, hZ6, hH6, hD6, y6, p6⟩
  · have hl : xs.length ≤ i := by omega
    have hk0 : i = xs.length := by omega
    subst hk0
    refine .inl ⟨w.stops c2.H hg2, ?_⟩
    rw [List.drop_length] at p2
    have M3 : Mv c2 { c2 with Z := c1.Z } := Mv.fewer fun a z => (hZ a).mpr (.inl z)
    have r3 : Rel G { c2 with Z := c1.Z } := r2.fewer fun a z => (hZ a).mpr (.inl z)
    have N : Nxt G c1 { c2 with Z := c1.Z } := ⟨r3, M2.trans M3, rfl, hH⟩
    exact p2 { c2 with Z := c1.Z } (.ref D) N rfl (.fl (.inl hD2) ⟨(r2.zok D ((hZ D).mpr (.inr rfl))).1, nDZ⟩ (y2.mono M3))
theorem ie_lc2 {elt tg iter tg1 iter1 : Expr} {ifs ifs1 : List Expr} {scope : Scope} (own : List (Str × Nat)) (vs1 : List Nat) {g g1 : MG} (hN : X.N.Nodup) (ok : BlkOk X.N X.env.scope scope own) (hi : II G B W X tg iter mi)
    (hg : ∀ (s : Shared) (H : Hp) (C : Addr) (cl : List (Str × Addr)) (fp : List Addr), IGe G B (own.map (·.2)) (X.blk s H scope (compEnvC scope cl C X.env) fp) tg g) (ht : ∀ (s : Shared) (H : Hp) (C : Addr) (cl : List (Str × Addr)) (fp : List Addr), PTs (X.blk s H scope (compEnvC scope cl C X.env) fp) ifs (tIt G B W0 mt))
    (hi1 : ∀ (s : Shared) (H : Hp) (C : Addr) (cl : List (Str × Addr)) (fp : List Addr), II G B W0 (X.blk s H scope (compEnvC scope cl C X.env) fp) tg1 iter1 mi1)
    (hg1 : ∀ (s : Shared) (H : Hp) (C : Addr) (cl : List (Str × Addr)) (fp : List Addr), IGe G B vs1 (X.blk s H scope (compEnvC scope cl C X.env) fp) tg1 g1) (ht1 : ∀ (s : Shared) (H : Hp) (C : Addr) (cl : List (Str × Addr)) (fp : List Addr), PTs (X.blk s H scope (compEnvC scope cl C X.env) fp) ifs1 (tIt G B W0 mt1))
    (he : ∀ (s : Shared) (H : Hp) (C : Addr) (cl : List (Str × Addr)) (fp : List Addr), IE G B W0 (X.blk s H scope (compEnvC scope cl C X.env) fp) elt me) (hv : ∀ i ∈ vs1, i ∈ own.map (·.2) := by decide) (hc : X.calm = true := by rfl) (hs : ∀ x, foldedSetIterable iter X.env x = pure x := by intro _; rfl) (hs1 : ∀ env x, foldedSetIterable iter1 env x = pure x := by intro _ _; rfl) :
    IE G B W X (.ListComp elt [⟨tg, iter, ifs, 0⟩, ⟨tg1, iter1, ifs1, 0⟩] scope pos) (mLc2 (own.map (·.2)) vs1 g mi mt mi1 g1 mt1 me) :=
  PE.imp (pe_lc2 hc hN hi ok hv hg ht hi1 hg1 ht1 he hs hs1) fun _ _ _ t => lc2_ok _ _ t
end
end PI
/-! PIor: a | b by a's own __or__, b of another own class. -/
namespace PI
open PySem PySem.Spec PyProof.Rows L2 ClX
def objMro (K : PySem.W.Frag) (D : Addr) : Bool := (PySem.W.clsIn K D).any fun cd => cd.mro == [.ref D, .type "object"]
section
variable {prog : Program} {w : World} {A : Around} {E : Value → Shared → Prop} {s : Shared} {K : PySem.W.Frag} {x y C D L f : Addr} {h₀ : Heap} {m : Str → Option Value} {ox od oy oe : Obj} {oD : Option Obj} {nm : String}
theorem fills_no {M : Model} {h : Heap} (X : K.In h) (hm : objMro K D = true) (h1 : PySem.W.findIn K (.ref D) (PySem.dunder nm) = some none) (h2 : PySem.W.findIn K (.ref D) (dunderR nm) = some none)
    (h3 : PySem.W.findIn K (.type "object") (PySem.dunder nm) = some none) (h4 : PySem.W.findIn K (.type "object") (dunderR nm) = some none) : PySem.W.Looks M h (fillsNumberSlot (.ref D) nm) false := by
  intro A Q E s k q
  obtain ⟨cd, hc, hm⟩ := PySem.W.any_some hm
  have hm : cd.mro = [.ref D, .type "object"] := by simpa using hm
  have Lm : PySem.W.Looks M h (mroOf (.ref D)) cd.mro := (PySem.W.looks_clsIn X hc).andThen (f := fun cd => pure cd.mro) .now
  have Lm' := Lm.keeps k
  obtain ⟨hh, g, d, tt, os⟩ := s
  have X' : K.In hh := X.keeps k
  have L1 : PySem.W.Looks M hh (typeLookup (.ref D) (PySem.dunder nm)) none := PySem.W.looks_findIn X' h1
  have L2 : PySem.W.Looks M hh (typeLookup (.ref D) (dunderR nm)) none := PySem.W.looks_findIn X' h2
  have L3 : PySem.W.Looks M hh (typeLookup (.type "object") (PySem.dunder nm)) none := PySem.W.looks_findIn X' h3
  have L4 : PySem.W.Looks M hh (typeLookup (.type "object") (dunderR nm)) none := PySem.W.looks_findIn X' h4
  unfold fillsNumberSlot
  refine wpAny_bind (Lm'.at ?_)
  rw [hm, List.anyM_cons]
  refine wpAny_bind ?_
  show wpAny M A (List.anyM _ [PySem.dunder nm, dunderR nm]) _ _ _
  rw [List.anyM_cons]
  refine wpAny_bind (wpAny_bind (L1.at (wpAny_pure ?_)))
  simp only [Bool.false_eq_true, if_false]
  rw [List.anyM_cons]
  refine wpAny_bind (wpAny_bind (L2.at (wpAny_pure ?_)))
  simp only [Bool.false_eq_true, if_false]
  refine wpAny_pure ?_
  simp only [Bool.false_eq_true, if_false]
  rw [List.anyM_cons]
  refine wpAny_bind (wpAny_bind ?_)
  refine L3.at (wpAny_bind (L4.at (wpAny_pure ?_)))
  simp
  exact wpAny_pure q
theorem bin_own2 {op : Operator} {Q : Value → Shared → Prop} (F : Fr h₀ L s.heap m) (X₀ : K.In h₀) (I : PySem.W.InstAt s.heap x ox C oD) (hb : PySem.W.Looks (model prog w) s.heap (typeOf (.ref y)) (.ref D)) (hc : PySem.W.selfFirst K C = true) (hne : (C == D) = false)
    (hs : PySem.W.findIn K (.ref C) (PySem.dunder op.info.2) = some (some (.ref f))) (hf : PySem.W.isFn K (.ref f) = true) (hm : objMro K D = true) (h1 : PySem.W.findIn K (.ref D) (PySem.dunder op.info.2) = some none) (h2 : PySem.W.findIn K (.ref D) (dunderR op.info.2) = some none)
    (h3 : PySem.W.findIn K (.type "object") (PySem.dunder op.info.2) = some none) (h4 : PySem.W.findIn K (.type "object") (dunderR op.info.2) = some none)
    (h : wpAny (model prog w) A (call (.ref f) [.ref x, .ref y]) (PySem.W.CmpBack Q) E s) : wpAny (model prog w) A (binaryOp op (.ref x) (.ref y)) Q E s := by
  have X := X₀.keeps F.keep
  obtain ⟨cd, rest, hcd, hmr⟩ := PySem.W.ksp_first hc
  rcases hi : op.info with ⟨sym, nm'⟩
  rw [hi] at hs h1 h2 h3 h4
  dsimp only at hs h1 h2 h3 h4
  have one := PySem.W.ksp_try X I hs hf h
  have L4 : PySem.W.Looks (model prog w) s.heap (fillsNumberSlot (.ref D) nm') false := fills_no X hm h1 h2 h3 h4
  have L3 : PySem.W.Looks (model prog w) s.heap (fillsNumberSlot (.ref C) nm') true := PySem.W.fills_K X hcd hmr hs
  have hne' : (Value.ref C == Value.ref D) = false := Bool.eq_false_iff.mpr fun q => by cases beq_iff_eq.mp q; simp at hne
  simp only [binaryOp, hi]
  refine wpAny_holding (wpAny_bind ?_)
  unfold binaryOp1
  refine wpAny_bind (I.type.here (wpAny_bind (hb.here (wpAny_bind (L3.here ?_)))))
  simp only [hne', Bool.false_eq_true, if_false]
  refine wpAny_bind (L4.here ?_)
  simp only [Bool.and_false, Bool.false_eq_true, if_false, Bool.false_and]
  refine wpAny_bind (wpAny_pure ?_)
  simp only [Bool.false_eq_true, if_false]
  refine wpAny_bind (wpAny_mono one (fun r s' hr' => ?_) fun _ _ e => e)
  obtain ⟨v, rfl, hq⟩ := hr'
  exact wpAny_pure (wpAny_pure hq)
end
section
variable {G : Gx} {B : Bx} {zs : Addr → Prop} {W : WX} {X : Cx} {c c' : Cfg} {L : List Addr} {τ : AS} {σ : SL} {pos pos' p apos cpos : Pos} {e o a b : Expr} {es : List Expr} {m n mo me : ME} {ma mi mk : MA} {mt : MT} {x s : Str} {i : Nat} {vs : List Nat}
def okV : Res AV → Option (AV × AH)
  | .ok v h => some (v, h)
  | _ => none
def kOwn2 (kc kd : Nat) (f : FN) (v w : AV) (h : AH) : Option (AV × AH) := match fldsOf v h, fldsOf w h with
  | some (k, _), some (k2, _) => if k = kc then (if k2 = kd then okV (f [v, w] h) else none) else none
  | _, _ => none
theorem own_v {A : Around} {k N : Nat} {g : Addr} {fd : FuncData} {ps : List Str} {fn : FN} {pins : List (Addr × Obj)} {s : Shared} {Qb : Value → Shared → Prop} {us : List Value} {vs : List AV} {ws : List V} {E : Value → Shared → Prop} (F : FnOk X.prog X.w X.K X.mg X.base (L2.CX X.prog X.w) k g fd ps (spF G N fn)) (hr : Room k A) (e0 : Env0 X.prog X.w X.K X.mg X.base A X.stack s c.H) (hb : Binds X.K fd ps []) (I : Inv X pins σ c.H s) (r : Vals ws us) (rl : Rel G c) (xs : RVs G c vs ws) (hl : vs.length = N)
    {v : AV} {h' : AH} (e : fn vs c.h = .ok v h') (K : ∀ u s' c' z, Nxt G c c' → c'.h = h' → Inv X pins σ c'.H s' → RV G c' v z → RelV z u → Qb u s') : wpAny (model X.prog X.w) A (call (.ref g) us) Qb E s := by
  have hsp : spF G N fn ws c.H (fun u H' => ∃ c', Nxt G c c' ∧ c'.h = h' ∧ c'.H = H' ∧ RV G c' v u) (fun _ _ _ => False) := sp_of rl xs hl (by rw [e]; intro c' u N1 e1 x1; exact ⟨c', N1, e1, rfl, x1⟩)
  have hl2 : (us ++ []).length = ps.length := by
    rw [List.append_nil, ← r.length]
    exact F.len _ _ _ _ hsp
  have hb2 := hb s us I.kIn hl2
  rw [List.append_nil] at hb2
  refine wpAny_call (codeAny_mono (F.run A X.stack s c.H ⟨us, []⟩ us ws _ (fun _ _ _ => False) hr e0 hb2 r hsp) fun r s' hq => ?_)
  cases r with
  | error e => exact (cx_false hq).elim
  | ok fl =>
    cases fl with
    | ret u =>
      obtain ⟨z, H', I', rz, c', N1, e1, eH, ez⟩ := I.after hq
      subst eH
      exact K u s' c' z N1 e1 I' ez rz
    | next => exact False.elim hq
    | brk => exact False.elim hq
    | cont => exact False.elim hq
def rOwn2 (G : Gx) (kc kd : Nat) (fn : FN) : R2 := fun x y H Q => ∃ (c : Cfg) (v w : AV), c.H = H ∧ Rel G c ∧ RV G c v x ∧ RV G c w y ∧ PostO G c Q (kOwn2 kc kd fn v w c.h)
theorem ao_own2 {kc kd : Nat} {fn : FN} : AO2 G (kOwn2 kc kd fn) (rOwn2 G kc kd fn) := fun c v w u x Q r xv xw p => ⟨c, v, w, rfl, r, xv, xw, p⟩
structure Own2 (K : PySem.W.Frag) (C D : Addr) (nm : String) (f : Addr) : Prop where
  at_ : PySem.W.findIn K (.ref C) (PySem.dunder nm) = some (some (.ref f))
  fn : PySem.W.isFn K (.ref f) = true
  first : PySem.W.selfFirst K C = true
  ne : (C == D) = false
  mro : objMro K D = true
  n1 : PySem.W.findIn K (.ref D) (PySem.dunder nm) = some none
  n2 : PySem.W.findIn K (.ref D) (dunderR nm) = some none
  n3 : PySem.W.findIn K (.type "object") (PySem.dunder nm) = some none
  n4 : PySem.W.findIn K (.type "object") (dunderR nm) = some none
theorem op_own2 {op : Operator} {kc kd k : Nat} {g : Addr} {fd : FuncData} {ps : List Str} {fn : FN} (O : Own2 X.K (G.ca kc) (G.ca kd) op.info.2 g) (F : FnOk X.prog X.w X.K X.mg X.base (L2.CX X.prog X.w) k g fd ps (spF G 2 fn)) (hr : Room k X.A) (hb : Binds X.K fd ps []) : OpR X (binaryOp op) (rOwn2 G kc kd (chk 2 fn)) := by
  intro pins s σ H x y u1 u2 Q I rx ry h
  obtain ⟨c, v, w, rfl, r, xv, xw, p⟩ := h
  unfold kOwn2 at p
  cases q1 : fldsOf v c.h with
  | none => rw [q1] at p; exact p.elim
  | some kf =>
    obtain ⟨k', fs⟩ := kf
    cases q2 : fldsOf w c.h with
    | none => rw [q1, q2] at p; exact p.elim
    | some kf2 =>
      obtain ⟨k2, fs2⟩ := kf2
      rw [q1, q2] at p
      simp only at p
      by_cases hk : k' = kc
      · rw [if_pos hk] at p
        by_cases hk2 : k2 = kd
        · rw [if_pos hk2] at p
          subst hk hk2
          obtain ⟨pp, dx, uf, rfl, ep, xf⟩ := inst_at r xv q1
          obtain ⟨pp2, dx2, uf2, rfl, ep2, xf2⟩ := inst_at r xw q2
          obtain rfl : u1 = Value.ref pp := rx
          obtain rfl : u2 = Value.ref pp2 := ry
          obtain ⟨mA, J, _⟩ := ins_get I.hok ep
          obtain ⟨od, J, _⟩ := J.look
          obtain ⟨mA2, J2, _⟩ := ins_get I.hok ep2
          obtain ⟨od2, J2, _⟩ := J2.look
          obtain ⟨mm, hF⟩ := I.fr
          cases e : chk 2 fn [v, w] c.h with
          | ok z h' =>
            rw [e] at p
            have p : PostO G c Q (some (z, h')) := p
            refine bin_own2 hF I.ok.mod.kin J J2.type O.first O.ne O.at_ O.fn O.mro O.n1 O.n2 O.n3 O.n4 (own_v (us := [.ref pp, .ref pp2]) (ws := [.ref pp, .ref pp2]) (vs := [v, w]) F hr I.env0 hb I (.cons rfl (.cons rfl .nil)) r (.cons xv (.cons xw .nil)) rfl e fun u s' c' zz N1 e1 I' xz rz => ?_)
            have fin : EP X pins σ Q u s' := ⟨zz, c'.H, I', rz, p c' _ N1 e1 xz⟩
            cases zz <;> simp only [L2.RelV] at rz <;> first | (subst rz; exact fin) | (obtain ⟨t, rz⟩ := rz; subst rz; exact fin)
          | exc _ _ _ => rw [e] at p; exact p.elim
          | stuck => rw [e] at p; exact p.elim
        · rw [if_neg hk2] at p; exact p.elim
      · rw [if_neg hk] at p; exact p.elim
end
end PI
/-! PIkw: calls with ** of a dict of texts. -/
namespace PI
open PySem PySem.Spec PyProof.Rows L2 ClX
section
variable {prog : Program} {w : World} {A : Around} {E : Value → Shared → Prop} {s : Shared} {a D : Addr} {K : Type} [DecidableEq K] {knd : KeyKind prog w K} {kvs : List (K × Value)}
theorem pairs_take {es : List DictEntry} {kvs : List (K × Value)} (h : Pairs knd es kvs) : ∀ i, Pairs knd (es.take i) (kvs.take i) := by
  induction h with
  | nil => intro i; simp; exact .nil
  | cons h1 h2 _ ih =>
    intro i
    cases i with
    | zero => exact .nil
    | succ i => exact .cons h1 h2 (ih i)
theorem pairs_at {es : List DictEntry} {kvs : List (K × Value)} (h : Pairs knd es kvs) : ∀ {i : Nat} (hi : i < es.length), ∃ k, knd.is k es[i].key = true ∧ (kvs.map (·.1))[i]? = some k := by
  induction h with
  | nil => intro i hi; simp at hi
  | cons h1 h2 _ ih =>
    intro i hi
    cases i with
    | zero => exact ⟨_, h1, rfl⟩
    | succ i => obtain ⟨k, a, b⟩ := ih (i := i) (by simpa using hi); exact ⟨k, by simpa using a, by simpa using b⟩
/-- a dict's entries go into an empty dict -/
theorem merge_ok {Q : Unit → Shared → Prop} (hm : s.heap.DictOf knd a kvs) (hne : a ≠ D) (hsm : (a == sysModules) = false) (hD : s.heap.get? D = some { cls := .type "dict", data := .dict #[] }) (hz : kvs.length ≤ sizeLine)
    (h : ∀ h', Heap.SameBut D s.heap h' → (∃ es ep oo, s.heap.get? a = some oo ∧ oo.data = .dict es ep ∧ ∃ o' ep', h'.get? D = some o' ∧ o'.data = .dict es ep' ∧ Pairs knd es.toList kvs) → Q () { s with heap := h' }) : wpAny (model prog w) A (mergeMapping D (.ref a) true) Q E s := by
  obtain ⟨o, es, ep, ho, hc, hdat, hk, hp, hn⟩ := id hm
  have hsz : es.size = kvs.length := by have e1 := hp.length; simpa using e1
  unfold mergeMapping
  refine wpAny_bind (wpAny_isInstance hm.typeIs isSubtype_dict_dict ?_)
  simp only [if_true]
  refine wpAny_bind (wpAny_specialOf hm.typeIs F.slot_dict_iter.lookup (wpAny_bind (wpAny_pure ?_)))
  simp only [beq_self_eq_true, hsm, Bool.false_eq_true, if_false]
  refine wpAny_bind (wpAny_dictEntries hD rfl ?_)
  have e0 : (#[] : Array DictEntry).isEmpty = true := rfl
  simp only [e0, if_true]
  refine wpAny_bind (wpAny_dictEntries ho hdat ?_)
  refine wpAny_bind (wpAny_mono (Q := fun _ s' => s' = s) (E := E) (wpAny_forIn_array' _ (fun l _ s' => s' = s ∧ ∀ e, e ∈ l → e ∈ es) (fun _ s' => s' = s) (fun e rest b s' h0 => ?_) (fun b s' h0 => h0.1) es PUnit.unit ⟨rfl, fun e he => by simpa using he⟩) (fun _ s' hs' => ?_) fun _ _ q => q)
  · obtain ⟨rfl, hmem⟩ := h0
    obtain ⟨k, hkey, _⟩ := hk e (hmem e (by simp))
    have hv := knd.byValue k _ hkey
    revert hv
    cases e.key <;> first | exact fun _ => wpAny_pure ⟨rfl, fun e he => hmem e (by simp [he])⟩ | exact fun hv => absurd hv Bool.false_ne_true
  subst hs'
  refine wpAny_bind (wpAny_dictEntries ho hdat (wpAny_bind (wpAny_dictEpoch ho hdat (wpAny_bind ?_))))
  refine wpAny_mono (Q := fun _ s2 => ∃ h', s2 = { s' with heap := h' } ∧ Heap.SameBut D s'.heap h' ∧ ∃ o' ep', h'.get? D = some o' ∧ o'.data = .dict es ep') (E := E) (wpAny_forIn_list _ (fun l _ s2 => ∃ i h', l = (List.range es.size).drop i ∧ i ≤ es.size ∧ s2 = { s' with heap := h' } ∧ Heap.SameBut D s'.heap h' ∧ ∃ o' ep', h'.get? D = some o' ∧ o'.data = .dict (es.toList.take i).toArray ep') _ (fun x rest b s2 h0 => ?_) (fun b s2 h0 => ?_) _ PUnit.unit ⟨0, s'.heap, rfl, Nat.zero_le _, rfl, ⟨rfl, fun _ _ => rfl⟩, _, _, hD, rfl⟩) (fun _ s2 h0 => ?_) fun _ _ q => q
  · obtain ⟨i, h', el, hi, rfl, hs, o', ep', ho', hd'⟩ := h0
    have hlt : i < es.size := by
      rcases Nat.lt_or_ge i es.size with q | q
      · exact q
      · rw [List.drop_eq_nil_of_le (by simpa using q)] at el; cases el
    rw [List.drop_eq_getElem_cons (by simpa using hlt)] at el
    simp only [List.getElem_range] at el
    injection el with e1 e2
    subst e1 e2
    have ho2 : h'.get? a = some o := (hs.2 a hne).trans ho
    refine wpAny_bind (wpAny_dictEntries (s := { s' with heap := h' }) ho2 hdat ?_)
    rw [Array.getElem?_eq_getElem hlt]
    obtain ⟨k, hkey, hhash⟩ := hk es[x] (Array.getElem_mem hlt)
    have hks : PySem.KeysOf knd (es.toList.take x).toArray := fun e he => hk e (Array.mem_toList_iff.mp (List.mem_of_mem_take (by simpa using he)))
    have hno : ((es.toList.take x).toArray.findIdx? fun e => knd.is k e.key) = none := by
      rw [Array.findIdx?_eq_none_iff]
      intro e he
      have he : e ∈ es.toList.take x := by simpa using he
      obtain ⟨j, hj, rfl⟩ := List.mem_iff_getElem.mp he
      cases q : knd.is k ((es.toList.take x)[j]).key with
      | false => simp
      | true =>
        exfalso
        have hj2 : j < x := by simp at hj; omega
        obtain ⟨kj, k1, n1⟩ := pairs_at hp (i := j) (by simp; omega)
        obtain ⟨kx, k2, n2⟩ := pairs_at hp (i := x) (by simpa using hlt)
        have q1 : knd.is k (es.toList[j]'(by simp; omega)).key = true := by simpa using q
        have q2 : knd.is k (es.toList[x]'(by simpa using hlt)).key = true := by simpa using hkey
        have z1 := knd.inj _ _ _ q1 k1
        have z2 := knd.inj _ _ _ q2 k2
        rw [z1] at z2
        subst z2
        obtain ⟨l1, g1⟩ := List.getElem?_eq_some_iff.mp n1
        obtain ⟨l2, g2⟩ := List.getElem?_eq_some_iff.mp n2
        exact (List.pairwise_iff_getElem.mp hn j x l1 l2 hj2) (g1.trans g2.symm)
    have hfind : ∀ {Q2 : Option Nat → Shared → Prop}, Q2 none { s' with heap := h' } → wpAny (model prog w) A (dictFind D es[x].key es[x].hash) Q2 E { s' with heap := h' } := fun {Q2} q => by
      rw [hhash]
      exact wpAny_dictFind_of (s := { s' with heap := h' }) hkey ho' hd' hks (by rw [hno]; exact q)
    simp only
    refine wpAny_bind (wpAny_holding (wpAny_bind (hfind ?_)))
    simp only [Option.isSome_none, Bool.false_eq_true, if_false]
    unfold dictPut
    refine wpAny_bind (hfind ?_)
    refine wpAny_updateDictKeys (s := { s' with heap := h' }) (hz := by simp; omega) ho' hd' ?_
    have ha3 : (h'.update D (Obj.mapDictKeys fun x_1 => x_1.push ⟨es[x].hash, es[x].key, es[x].val⟩)).get? a = some o := ((Heap.SameBut.update ..).2 a hne).trans ho2
    refine wpAny_bind (wpAny_dictEpoch ha3 hdat ?_)
    simp only [bne_self_eq_false, Bool.false_eq_true, if_false]
    refine wpAny_pure ⟨x + 1, _, rfl, hlt, rfl, hs.trans (Heap.SameBut.update ..), _, ep' + 1, Heap.get?_update_self _ ho' (Obj.isFreed_of_dict (Obj.data_mapDictKeys hd' _)), ?_⟩
    rw [Obj.data_mapDictKeys hd' _]
    congr 1
    rw [List.take_add_one]
    simp [hlt]
  · obtain ⟨i, h', el, hi, rfl, hs, o', ep', ho', hd'⟩ := h0
    have hin : i = es.size := by
      rcases Nat.lt_or_ge i es.size with q | q
      · have := congrArg List.length el
        simp at this
        omega
      · omega
    subst hin
    exact ⟨h', rfl, hs, o', ep', ho', by rw [hd', ← Array.length_toList, List.take_length, Array.toArray_toList]⟩
  · obtain ⟨h', rfl, hs, o', ep', ho', hd'⟩ := h0
    exact wpAny_pure (h h' hs ⟨es, ep, o, ho, hdat, o', ep', ho', hd', hp⟩)
end
end PI
/-! PIks: C(**d). -/
namespace PI
open PySem PySem.Spec PyProof.Rows L2 ClX
inductive Ent : List DictEntry → List (Str × Value) → Prop where
  | nil : Ent [] []
  | cons {e : DictEntry} {z : Str} {t : Tok} {l : List DictEntry} {r : List (Str × Value)} (h : e.key = .str z t) (q : Ent l r) : Ent (e :: l) ((z, e.val) :: r)
theorem ent_of {P : Program} {w : World} : ∀ {es : List DictEntry} {vs : List (Key × Value)} {kvs : List (Key × V)} {ks : List Str}, Pairs (mixKind P w) es vs → KV kvs vs → kvs.map (·.1) = ks.map Sum.inr → Ent es (ks.zip (vs.map (·.2))) ∧ Vals (kvs.map (·.2)) (vs.map (·.2))
  | _, _, _, ks, .nil, .nil, e => by
    cases ks with
    | nil => exact ⟨.nil, .nil⟩
    | cons _ _ => cases e
  | _, _, _, ks, .cons (e := en) h1 h2 h3, .cons r rr, e => by
    cases ks with
    | nil => cases e
    | cons k ks =>
      simp only [List.map_cons, List.cons.injEq] at e
      obtain ⟨i1, i2⟩ := ent_of h3 rr e.2
      rw [← r.1, e.1] at h1
      obtain ⟨t, ht⟩ := Value.isStrOf_shape (show Value.isStrOf k en.key = true from h1)
      refine ⟨?_, .cons r.2 i2⟩
      rw [List.map_cons, List.zip_cons_cons, ← h2]
      exact .cons ht i1
section
variable {X : Cx} {e : Expr} {te : TE} {pos : Pos} {f : Value}
theorem star_run {pins : List (Addr × Obj)} {σ : L2.St} {H : Hp} {s : Shared} {Q : Args → Shared → Prop} (he : PE X e te) (I : Inv X pins σ H s)
    (h : te σ H (fun x H1 => ∃ (a : Addr) (kvs : List (Key × V)) (ks : List Str), x = .ref a ∧ Rd H1 a (.dK kvs) ∧ kvs.map (·.1) = ks.map Sum.inr ∧ ∀ ws s', Vals (kvs.map (·.2)) ws → Inv X pins σ H1 s' → Q ⟨[], ks.zip ws⟩ s')) :
    wpAny (model X.prog X.w) X.A (evalArgs f true [] [(none, do let v ← eval e X.env; standAt pos; pure v)]) Q X.xe s := by
  unfold evalArgs
  refine wpAny_bind (wpAny_bind (wpAny_pure (wpAny_pure ?_)))
  simp only []
  refine wpAny_bind (wpAny_pure (wpAny_holding ?_))
  simp only [List.all_cons, List.all_nil, Option.isSome_none, Bool.false_and, Bool.false_eq_true, if_false]
  refine wpAny_bind ?_
  unfold mergedKeywords
  refine wpAny_bind (wpAny_alloc (wpAny_bind (wpAny_holding ?_)))
  have I1 : Inv X pins σ H { s with heap := s.heap.push { cls := .type "dict", data := .dict #[] } } := I.kept (t' := s.toks) fun b o z => Heap.get?_push_of_some _ z
  have hD : (s.heap.push { cls := .type "dict", data := .dict #[] }).get? s.heap.objs.size = some { cls := .type "dict", data := .dict #[] } := Heap.get?_push_size _ rfl
  have fp : FpOk X pins H s.heap.objs.size := I.fpOk (Nat.le_refl _) (I.hok.fresh (Nat.le_refl _))
  have I2 := I1.pinned (fp := [s.heap.objs.size]) (fun b hb => by obtain rfl : b = s.heap.objs.size := by simpa using hb
                                                                  exact fp) (fun b hb => by obtain rfl : b = s.heap.objs.size := by simpa using hb
                                                                                            exact ⟨_, hD, fun v q => nomatch q⟩)
  refine wpAny_bind ?_
  rw [List.forIn_cons]
  refine wpAny_bind ?_
  refine wpAny_bind (wpAny_pure ?_)
  refine wpAny_bind (wpAny_bind (thn (he.run _ _ σ H _ I2 h) fun u s1 ⟨x, H1, I3, rx, a, kvs, ks, ex, ha, hks, hQ⟩ => ?_))
  subst ex
  obtain rfl : u = Value.ref a := rx
  refine wpAny_bind (wpAny_standAt (wpAny_pure ?_))
  have pD := I3.pin (s.heap.objs.size, { cls := .type "dict", data := .dict #[] }) (List.mem_append_right _ (List.mem_append_right _ (mem_pinsAt (by simp) hD)))
  have I4 := I3.unpinned (pins := pins)
  have hne : a ≠ s.heap.objs.size := fun q => by subst q; rcases ha with ha | ⟨_, ha⟩ <;> (rw [pD.2.1] at ha; cases ha)
  obtain ⟨hz, hsm, vs, rel, dd⟩ := dk_rd I4.hok ha
  have fp4 : FpOk X pins H1 s.heap.objs.size := ⟨pD.2.1, fp.2⟩
  refine wpAny_bind (wpAny_onRaise (wpAny_holding (wpAny_tryCatch (wpAny_onRaise (merge_ok dd hne hsm pD.1 (by rw [← rel.length]; exact hz) fun h' hs ⟨es, ep, oo, hoo, hod, o', ep', ho', hd', hp⟩ => ?_)))))
  refine wpAny_pure (wpAny_pure ?_)
  refine wpAny_pure ?_
  refine wpAny_pure ?_
  refine wpAny_bind (wpAny_pure ?_)
  refine wpAny_bind (wpAny_holding ?_)
  unfold keywordsIn
  refine wpAny_bind (wpAny_dictEntries ho' hd' ?_)
  obtain ⟨en, rv⟩ := ent_of hp rel hks
  have I5 : Inv X pins σ H1 { s1 with heap := h' } := I4.turnedL (t' := s1.toks) (ch := [s.heap.objs.size]) (fun b o hb q => (hs.2 b (fun z => hb (by simp [z]))).trans q) fun b hb => by
    obtain rfl : b = s.heap.objs.size := by simpa using hb
    exact fp4
  refine wpAny_bind (wpAny_forIn_array' _ (fun l kw s2 => s2 = { s1 with heap := h' } ∧ ∃ r, Ent l r ∧ kw ++ r = ks.zip (vs.map (·.2))) _ (fun y rest kw s2 h0 => ?_) (fun kw s2 h0 => ?_) es [] ⟨rfl, _, en, rfl⟩)
  · obtain ⟨rfl, r, h1, h2⟩ := h0
    cases h1 with
    | @cons _ z t _ r hk q =>
      simp only [hk]
      exact wpAny_pure ⟨rfl, r, q, by simpa using h2⟩
  · obtain ⟨rfl, r, h1, h2⟩ := h0
    cases h1
    rw [List.append_nil] at h2
    subst h2
    exact wpAny_pure (wpAny_pure (hQ _ _ rv I5))
theorem callWith_star {M : Model} {A : Around} {E : Value → Shared → Prop} {s : Shared} {K : PySem.W.Frag} {first : List Value} {Q : Value → Shared → Prop} {x : Sem Value} (hk : PySem.W.keepIn K f = true)
    (h : wpAny M A (evalArgs f true [] [(none, x)]) (fun a s₁ => K.In s₁.heap ∧ wpAny M A (call f (first ++ a.pos) a.kw) Q E s₁) E s) : wpAny M A (callWith pos f first [] [(none, x)]) Q E s := by
  unfold callWith
  refine wpAny_bind (wpAny_holding (wpAny_mono h (fun a s₁ h₁ => wpAny_bind (wpAny_standAt ?_)) fun _ _ x => x))
  obtain ⟨k, hk', L⟩ := PySem.W.keeps_K (M := M) hk _ h₁.1
  simp only [List.any_nil, List.any_cons, Option.isNone_none, Bool.or_false, Bool.or_true]
  refine wpAny_bind (L.here ?_)
  have tail : ∀ {t : Sem Value}, wpAny M A t Q E s₁ → wpAny M A (t >>= fun r => holding [r] point >>= fun _ => pure r) Q E s₁ :=
    fun ht => wpAny_bind (wpAny_mono ht (fun r s₂ hr => wpAny_bind (wpAny_holding (wpAny_point (wpAny_pure hr)))) fun _ _ x => x)
  have marked (mk : Value) : wpAny M A (callMarked mk f (first ++ a.pos) a.kw) Q E s₁ := by unfold callMarked; exact Calls.wpAny_keep h₁.2
  rcases hk' with rfl | rfl | rfl <;> dsimp only <;> first | exact tail (marked _) | exact tail (wpAny_operateT h₁.2)
end
abbrev selfL : List Str := ["self"]
/-- the parameters pn, the keyword-only kn, of which dk have defaults: any keywords that fit -/
structure KBA (G : Gx) (K : PySem.W.Frag) (fd : FuncData) (pn kn dk : List Str) (n d : Nat) (dws : List AV) : Prop where
  all : ∀ ks, bindOk pn kn ks dk n d = true → KBD G K fd (pn ++ kn) n ks (pkOf (pn.take n ++ ks ++ pn.drop (pn.length - d) ++ kn) (pn ++ kn)) dws
theorem kba_of {G : Gx} {K : PySem.W.Frag} {x qual : Str} {params : Arguments} {body : List Stmt} {scope : Scope} {dvs : List V} {kws : List (Str × V)} {f : Addr} {fd : FuncData} {dws : List AV} {dk : List Str} {d : Nat} (F : FunD K x qual params body scope dvs kws f fd) {pn kn : List Str} (n : Nat)
    (hpo : params.posonlyargs = []) (hva : params.vararg = none) (hkw : params.kwarg = none) (hpn : params.args.map (fun x => x.arg) = pn) (hkn : params.kwonlyargs.map (fun x => x.arg) = kn) (hdk : kws.map (·.1) = dk) (hd : dvs.length = d)
    (g : GVs G dws (dvs ++ kn.map fun m => (kws.lookup m).getD .non)) : KBA G K fd pn kn dk n d dws :=
  ⟨fun ks ok => kbd_of F n ks _ hpo hva hkw hpn hkn (by rw [hdk, hd]; exact ok) (by rw [hd]) g⟩
def kvOf (v : AV) (h : AH) : Option (List (Key × AV)) := match v with
  | .fd xs => some xs
  | .ref n => match h[n]? with
    | some (some (.dk xs)) => some xs
    | _ => none
  | _ => none
def ksOf : List (Key × AV) → Option (List Str)
  | [] => some []
  | (.inr z, _) :: r => (ksOf r).map (z :: ·)
  | (.inl _, _) :: _ => none
def fMkS2 (kc : Nat) (f : FI) (kn : List Str) (dws : List AV) (kvs : List (Key × AV)) (ks : List Str) (h : AH) : Res AV := if bindOk selfL kn ks kn 1 0 then (f (pickL (pkOf (ks ++ kn) kn) (kvs.map (·.2) ++ dws)) h).bind (fMk2 kc) else .stuck
def fMkS (kc : Nat) (f : FI) (kn : List Str) (dws : List AV) : AV → AH → Res AV := fun v h => match kvOf v h with
  | some kvs => match ksOf kvs with
    | some ks => fMkS2 kc f kn dws kvs ks h
    | none => .stuck
  | none => .stuck
def fMkSc (kc : Nat) (f : FI) (kn : List Str) (dws : List AV) (m : ME) (τ : AS) : AV → AH → Res AV := fun v h => match v with
  | .cls k => if k = kc then (m τ h).bind (fMkS kc f kn dws) else .stuck
  | _ => .stuck
/-- C(**d), all of C's arguments by name and with defaults -/
def mMkS (kc : Nat) (f : FI) (kn : List Str) (dws : List AV) (mc m : ME) : ME := fun τ h => (mc τ h).bind (fMkSc kc f kn dws m τ)
@[simp] theorem mMkS_ev {kc : Nat} {f : FI} {kn : List Str} {dws : List AV} {mc m : ME} {τ : AS} {h : AH} : mMkS kc f kn dws mc m τ h = (mc τ h).bind (fMkSc kc f kn dws m τ) := rfl
@[simp] theorem fMkSc_ev {kc k : Nat} {f : FI} {kn : List Str} {dws : List AV} {m : ME} {τ : AS} {h : AH} : fMkSc kc f kn dws m τ (.cls k) h = if k = kc then (m τ h).bind (fMkS kc f kn dws) else .stuck := rfl
theorem fMkS_ev {kc : Nat} {f : FI} {kn : List Str} {dws : List AV} {v : AV} {kvs : List (Key × AV)} {ks : List Str} {h : AH} (e1 : kvOf v h = some kvs) (e2 : ksOf kvs = some ks) : fMkS kc f kn dws v h = fMkS2 kc f kn dws kvs ks h := by
  unfold fMkS; rw [e1]; simp only; rw [e2]
section
variable {G : Gx} {B : Bx} {zs : Addr → Prop} {W : WX} {X : Cx} {c c' : Cfg} {L : List Addr} {τ : AS} {σ : SL} {pos pos' p kp apos cpos : Pos} {e o a : Expr} {es : List Expr} {m n mo me : ME} {ma mi mk : MA} {mt : MT} {x s : Str} {i : Nat} {vs : List Nat}
theorem ks_keys : ∀ {kvs : List (Key × AV)} {us : List (Key × V)} {ks : List Str}, ksOf kvs = some ks → RVd G c kvs us → us.map (·.1) = ks.map Sum.inr ∧ RVs G c (kvs.map (·.2)) (us.map (·.2))
  | _, _, ks, e, .nil => by cases e; exact ⟨rfl, .nil⟩
  | (k, v) :: r, _, ks, e, .cons _ y z => by
    cases k with
    | inl _ => cases e
    | inr z0 =>
      unfold ksOf at e
      cases q : ksOf r with
      | none => rw [q] at e; cases e
      | some ks' =>
        rw [q] at e
        cases e
        obtain ⟨h1, h2⟩ := ks_keys q z
        exact ⟨by simp [h1], .cons y h2⟩
theorem kv_rd {v : AV} {u : V} {kvs : List (Key × AV)} (r : Rel G c) (y : RV G c v u) (e : kvOf v c.h = some kvs) : ∃ a us, u = .ref a ∧ Rd c.H a (.dK us) ∧ RVd G c kvs us := by
  cases y with
  | fd a b d => cases e; exact ⟨_, _, rfl, a, d⟩
  | @ref n hn =>
    unfold kvOf at e
    simp only at e
    split at e
    · rename_i xs q
      cases e
      obtain ⟨us, q1, y⟩ := r.obj n _ q
      exact ⟨_, us, rfl, .inl q1, y⟩
    · cases e
  | _ => cases e
theorem pk_self {N kn : List Str} (h : ("self" : Str) ∉ kn) (hs : ∀ n, n ∈ kn → n ∈ N) : pkOf (("self" : Str) :: N) (("self" : Str) :: kn) = 0 :: (pkOf N kn).map (· + 1) := by
  unfold pkOf
  rw [List.map_cons, List.findIdx?_cons]
  simp only [beq_self_eq_true, if_true, Option.getD_some, List.map_map, List.cons.injEq, true_and]
  refine List.map_congr_left fun n hn => ?_
  have : (("self" : Str) == n) = false := by simpa using fun q : ("self" : Str) = n => h (q ▸ hn)
  simp only [Function.comp, List.findIdx?_cons, this, Bool.false_eq_true, if_false]
  cases q : N.findIdx? (· == n) with
  | none =>
    rw [List.findIdx?_eq_none_iff] at q
    have := q n (hs n hn)
    simp at this
  | some i => rfl
theorem ie_mkS {kc k N : Nat} {f : Addr} {fd : FuncData} {kn : List Str} {dws : List AV} {fi : FI} {mc : ME} (M : Mk X.K (G.ca kc) f) (F : FnOk X.prog X.w X.K X.mg X.base (L2.CX X.prog X.w) k f fd (selfL ++ kn) (spI G kc N fi)) (hr : Room (k + 1) X.A) (tk : Takes X W) (hc : IE G B W X (.Name x p) mc) (hb : KBA G X.K fd selfL kn kn 1 0 dws)
    (he : IE G B W X e m) (hself : ("self" : Str) ∉ kn := by decide) :
    IE G B W X (.Call (.Name x p) [] [⟨none, e, kp⟩] pos) (mMkS kc (chkI N fi) kn dws mc m) := by
  refine ⟨fun pins s σ H Q I ⟨c, τ, L, eH, rl, s', q⟩ => ?_⟩
  refine wpAny_Call_Name_kw (thn (hc.run pins s σ H _ I ⟨c, τ, L, eH, rl, s', Post.bind (R := RV G) q⟩) fun u0 s0 ⟨y0, H0, I0, ry0, c0, v0, e0, N0, x0, p0⟩ => ?_)
  subst e0
  cases v0 with
  | cls k' =>
    have p0 : Post G (RV G) c0 (fun k d H' => W k d σ H') Q (if k' = kc then (m τ c0.h).bind (fMkS kc (chkI N fi) kn dws) else .stuck) := p0
    by_cases hk : k' = kc
    case neg => rw [if_neg hk] at p0; exact p0.elim
    rw [if_pos hk] at p0
    subst hk
    cases x0
    obtain rfl : u0 = Value.ref (G.ca k') := ry0
    show wpAny _ _ (callWith pos (.ref (G.ca k')) [] [] [(none, do let v ← eval e X.env; standAt pos; pure v)]) _ _ _
    refine callWith_star (K := X.K) M.kp ?_
    refine star_run he I0 ⟨c0, τ, L, rfl, N0.rel, s'.nxt N0, (Post.bind (R := RV G) p0).imp fun u H1 ⟨c1, v, e1, N1, x1, p1⟩ => ?_⟩
    subst e1
    unfold fMkS at p1
    cases q1 : kvOf v c1.h with
    | none => rw [q1] at p1; exact p1.elim
    | some kvs =>
      cases q2 : ksOf kvs with
      | none => simp only [q1, q2] at p1; exact p1.elim
      | some ks =>
        simp only [q1, q2] at p1
        unfold fMkS2 at p1
        by_cases hok : bindOk selfL kn ks kn 1 0 = true
        · rw [if_pos hok] at p1
          obtain ⟨a, us, rfl, hrd, yd⟩ := kv_rd N1.rel x1 q1
          obtain ⟨hks, yv⟩ := ks_keys q2 yd
          refine ⟨a, us, ks, rfl, hrd, hks, fun ws s2 rv I2 => ⟨I2.kIn, ?_⟩⟩
          obtain ⟨dvs, ds, rd, gd, kb⟩ := (hb.all ks hok).ex
          have hN : ∀ n, n ∈ kn → n ∈ ks ++ kn := fun n h => by simp [h]
          have epk : pkOf (selfL.take 1 ++ ks ++ selfL.drop (selfL.length - 0) ++ kn) (selfL ++ kn) = 0 :: (pkOf (ks ++ kn) kn).map (· + 1) := by
            have := pk_self hself hN
            simpa using this
          rw [epk] at kb
          have hlen : us.length = ks.length := by have := congrArg List.length hks; simpa using this
          refine run_makeKS (E := fun σ k d H => W k d σ H) M F hr kb (passAt tk σ) (us := []) (vs := []) I2 .nil rv rfl (by simpa using hlen) fun y dx hy hdx ne => ?_
          show (spI G k' N fi) (pickL (0 :: (pkOf (ks ++ kn) kn).map (· + 1)) (.ref y :: (([] : List V) ++ us.map (·.2) ++ dvs))) _ _ _
          rw [pick_succ]
          exact spI_new N1.rel (pick_rvs (by simpa using yv.append (gd c1)) _) hy hdx ne p1
        · rw [if_neg hok] at p1; exact p1.elim
  | _ => exact p0.elim
end
end PI
/-! PIdc: dict comprehensions. -/
namespace PI
open PySem PySem.Spec PyProof.Rows L2 ClX
section
def dcF2 (k : List (Key × AV) → AH → Res AV) (acc : List (Key × AV)) (kk : Key) : AV → AH → Res AV := fun z h => if small (acc.length + 1) then k (putA acc kk z) h else .stuck
def dcF1 (mv : ME) (τ : AS) (k : List (Key × AV) → AH → Res AV) (acc : List (Key × AV)) : AV → AH → Res AV := fun y h => match keyA y with
  | none => .stuck
  | some kk => (noX (mv τ h)).bind (dcF2 k acc kk)
def dcL (g : MG) (mt : MT) (mk mv : ME) (τ : AS) : List AV → List (Key × AV) → AH → Res AV
  | [], acc, h => .ok (.fd acc) h
  | v :: r, acc, h => match g v τ with
    | none => .stuck
    | some τ2 => (noX (mt τ2 h)).bind fun b h => if b then (noX (mk τ2 h)).bind (dcF1 mv τ2 (dcL g mt mk mv τ r) acc) else dcL g mt mk mv τ r acc h
def mDc (vs : List Nat) (g : MG) (mi : MA) (mt : MT) (mk mv : ME) : ME := fun τ h => (mi τ h).bind fun xs h => dcL g mt mk mv (wipeA τ vs) xs [] h
variable {G : Gx} {B : Bx} {zs : Addr → Prop} {W : WX} {X : Cx} {c c' : Cfg} {L : List Addr} {τ : AS} {σ : SL} {pos pos' p apos cpos : Pos} {e e2 o a : Expr} {es : List Expr} {m n mo mk mv : ME} {ma mi mi1 : MA} {mt mt1 : MT} {x s : Str} {i : Nat} {vs vs1 : List Nat}
theorem dc_ok {g : MG} {σ : SL} {H : Hp} {Q : VK} (vs : List Nat) (t : tI G B W (mDc vs g mi mt mk mv) σ H Q) : tDc (tIi G B W mi) (tGe G B vs g) (tIt G B W0 mt) (tI G B W0 mk) (tI G B W0 mv) vs σ H Q := by
  obtain ⟨c, τ, L, eH, rl, s, p⟩ := t
  refine ⟨c, τ, L, eH, rl, s, (Post.bind (R := fun c' (vs : List AV) (J : It) => Goes G c' J vs) p).imp fun J H1 ⟨c1, xs, e1, N1, ⟨Gd, Y, w, hG, hY⟩, p1⟩ => ?_⟩
  subst e1
  have s1 := s.nxt N1
  intro D hD
  obtain ⟨L0, hL0, sw⟩ := s1.wipeAll vs
  have nDZ : ¬ c1.Z D := N1.rel.nz hD
  have nDL : ∀ a, a ∈ L0 → c1.Z a := fun a h => s1.z a (hL0 a h)
  refine ⟨fun i k H => ∃ (c2 : Cfg) (acc : List (Key × AV)) (us : List (Key × V)), c2.H = H ∧ k + i = xs.length ∧ Rel G c2 ∧ Mv c1 c2 ∧ (∀ a, c2.Z a ↔ (c1.Z a ∨ a = D)) ∧ (∀ a, c1.Z a → c2.H a = c1.H a) ∧ c2.H D = some (.dK us) ∧ RVd G c2 acc us ∧
      Post G (RV G) c1 (fun k d H' => W k d σ H') Q (dcL g mt mk mv (wipeA τ vs) (xs.drop i) acc c2.h),
    ⟨xs.length, { c1 with Z := fun a => c1.Z a ∨ a = D, H := upd c1.H D (.dK []) }, [], [], rfl, rfl, N1.rel.mine hD, Mv.mine hD, fun a => Iff.rfl, fun a z => upd_ne fun y => nDZ (by rw [← y]; exact z), upd_same, .nil, p1⟩, ?_⟩
  rintro i k H ⟨c2, acc, us, rfl, hk, r2, M2, hZ, hH, hD2, y2, p2⟩
  have hg2 := hG c2 M2
  by_cases hi2 : i < xs.length
  · refine .inr ⟨w.goes i c2.H hi2 hg2, fun H' => ∃ k', k' < k ∧ ∃ (c3 : Cfg) (acc : List (Key × AV)) (us : List (Key × V)), c3.H = H' ∧ k' + (i + 1) = xs.length ∧ Rel G c3 ∧ Mv c1 c3 ∧ (∀ a, c3.Z a ↔ (c1.Z a ∨ a = D)) ∧ (∀ a, c1.Z a → c3.H a = c1.H a) ∧ c3.H D = some (.dK us) ∧ RVd G c3 acc us ∧
        Post G (RV G) c1 (fun k d H' => W k d σ H') Q (dcL g mt mk mv (wipeA τ vs) (xs.drop (i + 1)) acc c3.h), fun H' h => h, fun x H' y => ?_⟩
    obtain ⟨N3, x3⟩ := hY c2 i x H' xs[i] M2 r2 (by simp [hi2]) (w.yields i c2.H x H' hi2 hg2 y)
    rw [List.drop_eq_getElem_cons hi2] at p2
    unfold dcL at p2
    cases q : g xs[i] (wipeA τ vs) with
    | none => rw [q] at p2; exact p2.elim
    | some τ2 =>
      rw [q] at p2
      simp only at p2
      have cz : ∀ a, c1.Z a → c2.Z a := fun a z => (hZ a).mpr (.inl z)
      have sw2 : RS G B c2 L0 (wipeA τ vs) (wipe σ vs) := sw.mono M2 fun a h => ⟨cz a (nDL a h), hH a (nDL a h)⟩
      have sw3 := sw2.nxt N3
      have rest : ∀ {c4 : Cfg}, Nxt G c2 c4 → (Rel G c4 ∧ Mv c1 c4 ∧ (∀ a, c4.Z a ↔ (c1.Z a ∨ a = D)) ∧ (∀ a, c1.Z a → c4.H a = c1.H a) ∧ c4.H D = some (.dK us) ∧ RVd G c4 acc us) := fun {c4} N => by
        refine ⟨N.rel, M2.trans N.mv, fun a => by rw [N.z]; exact hZ a, fun a z => (N.zz a (cz a z)).trans (hH a z), (N.zz D ((hZ D).mpr (.inr rfl))).trans hD2, RVd.mono N.mv y2⟩
      refine ⟨{ c2 with H := H' }, _, L0, xs[i], τ2, rfl, N3.rel, sw3, x3, q, fun σ2 s2 hw => ⟨hw.trans wipe_idem, { c2 with H := H' }, τ2, L0, rfl, N3.rel, s2, ?_⟩⟩
      revert p2
      cases eT : mt τ2 c2.h with
      | exc _ _ _ => exact fun p2 => p2.elim
      | stuck => exact fun p2 => p2.elim
      | ok b h4 =>
        intro p2 c4 u4 N4 e4 x4
        subst x4
        subst e4
        have p2 : Post G (RV G) c1 (fun k d H' => W k d σ H') Q (if b = true then (noX (mk τ2 c4.h)).bind (dcF1 mv τ2 (dcL g mt mk mv (wipeA τ vs) (xs.drop (i + 1))) acc) else dcL g mt mk mv (wipeA τ vs) (xs.drop (i + 1)) acc c4.h) := p2
        have N24 := N3.trans N4
        cases b with
        | false =>
          rw [if_neg Bool.false_ne_true] at p2 ⊢
          obtain ⟨a1, a2, a3, a4, a5, a6⟩ := rest N24
          exact ⟨k - 1, by omega, c4, acc, us, rfl, by omega, a1, a2, a3, a4, a5, a6, p2⟩
        | true =>
          rw [if_pos rfl] at p2 ⊢
          refine ⟨c4, τ2, L0, rfl, N4.rel, s2.nxt N4, ?_⟩
          revert p2
          cases eE : mk τ2 c4.h with
          | exc _ _ _ => exact fun p2 => p2.elim
          | stuck => exact fun p2 => p2.elim
          | ok y h5 =>
            intro p2 c5 u5 N5 e5 x5
            subst e5
            have p2 : Post G (RV G) c1 (fun k d H' => W k d σ H') Q (dcF1 mv τ2 (dcL g mt mk mv (wipeA τ vs) (xs.drop (i + 1))) acc y c5.h) := p2
            unfold dcF1 at p2
            cases hky : keyA y with
            | none => rw [hky] at p2; exact p2.elim
            | some kk =>
              rw [hky] at p2
              obtain ⟨eu, hkk⟩ := key_rv x5 hky
              refine ⟨c5, τ2, L0, rfl, N5.rel, (s2.nxt N4).nxt N5, ?_⟩
              revert p2
              simp only
              cases eV : mv τ2 c5.h with
              | exc _ _ _ => exact fun p2 => p2.elim
              | stuck => exact fun p2 => p2.elim
              | ok z h6 =>
                intro p2 c6 u6 N6 e6 x6
                subst e6
                have p2 : Post G (RV G) c1 (fun k d H' => W k d σ H') Q (if small (acc.length + 1) then dcL g mt mk mv (wipeA τ vs) (xs.drop (i + 1)) (putA acc kk z) c6.h else .stuck) := p2
                by_cases hl : small (acc.length + 1) = true
                · rw [if_pos hl] at p2
                  obtain ⟨a1, a2, a3, a4, a5, a6⟩ := rest ((N24.trans N5).trans N6)
                  refine ⟨us, kk, eu, a5, by rw [← a6.length]; exact Nat.lt_of_lt_of_le (Nat.lt_succ_self _) (small_le hl), k - 1, by omega, { c6 with H := upd c6.H D (.dK (putK us kk u6)) }, putA acc kk z, putK us kk u6, rfl, by omega, ?_⟩
                  have zD : c6.Z D := (a3 D).mpr (.inr rfl)
                  have M6 := Mv.turn (O := .dK (putK us kk u6)) zD
                  exact ⟨a1.turn zD, a2.trans M6, a3, fun a z => (upd_ne fun y => nDZ (by rw [← y]; exact z)).trans (a4 a z), upd_same, RVd.mono M6 (a6.put hkk x6), p2⟩
                · rw [if_neg hl] at p2; exact p2.elim
  · have hl : xs.length ≤ i := by omega
    have hk0 : i = xs.length := by omega
    subst hk0
    refine .inl ⟨w.stops c2.H hg2, ?_⟩
    rw [List.drop_length] at p2
    have M3 : Mv c2 { c2 with Z := c1.Z } := Mv.fewer fun a z => (hZ a).mpr (.inl z)
    have r3 : Rel G { c2 with Z := c1.Z } := r2.fewer fun a z => (hZ a).mpr (.inl z)
    have N : Nxt G c1 { c2 with Z := c1.Z } := ⟨r3, M2.trans M3, rfl, hH⟩
    exact p2 { c2 with Z := c1.Z } (.ref D) N rfl (.fd (.inl hD2) ⟨(r2.zok D ((hZ D).mpr (.inr rfl))).1, nDZ⟩ (RVd.mono M3 y2))
theorem ie_dc {kx vx tg iter : Expr} {ifs : List Expr} {scope : Scope} (own : List (Str × Nat)) {g : MG} (hN : X.N.Nodup) (ok : BlkOk X.N X.env.scope scope own) (hi : II G B W X tg iter mi)
    (hg : ∀ (s : Shared) (H : Hp) (C : Addr) (cl : List (Str × Addr)) (fp : List Addr), IGe G B (own.map (·.2)) (X.blk s H scope (compEnvC scope cl C X.env) fp) tg g) (ht : ∀ (s : Shared) (H : Hp) (C : Addr) (cl : List (Str × Addr)) (fp : List Addr), PTs (X.blk s H scope (compEnvC scope cl C X.env) fp) ifs (tIt G B W0 mt))
    (hk : ∀ (s : Shared) (H : Hp) (C : Addr) (cl : List (Str × Addr)) (fp : List Addr), IE G B W0 (X.blk s H scope (compEnvC scope cl C X.env) fp) kx mk)
    (he : ∀ (s : Shared) (H : Hp) (C : Addr) (cl : List (Str × Addr)) (fp : List Addr), IE G B W0 (X.blk s H scope (compEnvC scope cl C X.env) fp) vx mv) (hc : X.calm = true := by rfl) (hs : ∀ x, foldedSetIterable iter X.env x = pure x := by intro _; rfl) :
    IE G B W X (.DictComp kx vx [⟨tg, iter, ifs, 0⟩] scope pos) (mDc (own.map (·.2)) g mi mt mk mv) :=
  PE.imp (pe_dc hc hN hi ok hg ht hk he hs) fun _ _ _ t => dc_ok _ t
theorem ps_setDc {i : Nat} {y : Str} {py : Pos} {kx vx tg iter : Expr} {ifs : List Expr} {scope : Scope} {own : List (Str × Nat)} {pos spos : Pos} {wi : TI} {g : TG} {tt : TT} {tk tv : TE} (hc : X.calm = true) (hN : X.N.Nodup) (hy : X.N[i]? = some y) (hyl : X.env.scope.names.lookup y = some .local)
    (hsw : swapsWith (.DictComp kx vx [⟨tg, iter, ifs, 0⟩] scope pos) (some (.Name y py)) spos.line X.env = pure true) (hi : PI X tg iter wi) (ok : BlkOk X.N X.env.scope scope own)
    (hg : ∀ (s : Shared) (H : Hp) (C : Addr) (cl : List (Str × Addr)) (fp : List Addr), PG (X.blk s H scope (compEnvC scope cl C X.env) fp) tg g) (ht : ∀ (s : Shared) (H : Hp) (C : Addr) (cl : List (Str × Addr)) (fp : List Addr), PTs (X.blk s H scope (compEnvC scope cl C X.env) fp) ifs tt)
    (hk : ∀ (s : Shared) (H : Hp) (C : Addr) (cl : List (Str × Addr)) (fp : List Addr), PE (X.blk s H scope (compEnvC scope cl C X.env) fp) kx tk)
    (he : ∀ (s : Shared) (H : Hp) (C : Addr) (cl : List (Str × Addr)) (fp : List Addr), PE (X.blk s H scope (compEnvC scope cl C X.env) fp) vx tv) (hs : ∀ x, foldedSetIterable iter X.env x = pure x := by intro _; rfl) :
    PS X (.Assign [.Name y py] (.DictComp kx vx [⟨tg, iter, ifs, 0⟩] scope pos) spos) (tAsg (tDc wi g tt tk tv (own.map (·.2))) (gName i)) := by
  refine ⟨fun pins s σ H D I h => ?_⟩
  rw [exec_Assign_Name_used _ _ _ _ hsw]
  refine wpAny_bind (wpAny_standAt (wpAny_bind ?_))
  show wpAny _ X.A (do let _ ← comprehension (.DictComp kx vx [⟨tg, iter, ifs, 0⟩] scope pos) scope X.env (firstIterPos [⟨tg, iter, ifs, 0⟩] pos) newDict false (eval iter X.env) (some (assign (.Name y py) X.env))) _ _ s
  have h : tDc wi g tt tk tv (own.map (·.2)) σ H (fun x H1 => gName i x σ H1 D.nx) := h
  refine wpAny_bind (thn (dc_core (Qf := fun _ s' => SP X pins D .next s') hc hN I hi ok hg ht hk he hs h fun L C s' m H' I' q hn f => ?_) fun _ s' hq => wpAny_pure (wpAny_pure hq))
  show wpAny _ _ (assign (.Name y py) X.env (.ref L)) _ _ _
  refine wpAny_assign_Name (store_ok2 (v := V.ref L) I' hN hy (.inl hyl) rfl (fun s2 I2 ⟨a, sb, ha⟩ => ?_) (.inr hyl))
  obtain ⟨f0, f1, f2, f3, f4, f5⟩ := f
  have haC : C ≠ a := by
    rcases ha with z | z
    · rw [z]; exact f1
    · exact fun e => f4 y a z e.symm
  refine ⟨m, hn.sameBut sb haC, fun h3 sb3 => ?_⟩
  exact ⟨_, H', I2.turned (t' := s2.toks) (fun b o hb e => (sb3.2 b hb).trans e) f0 f1 f3 f4 f5, q⟩
theorem is_setdc {kx vx tg iter : Expr} {ifs : List Expr} {scope : Scope} {py : Pos} {y : Str} (i : Nat) (own : List (Str × Nat)) {g : MG} (hN : X.N.Nodup) (ok : BlkOk X.N X.env.scope scope own) (hi : II G B W X tg iter mi)
    (hg : ∀ (s : Shared) (H : Hp) (C : Addr) (cl : List (Str × Addr)) (fp : List Addr), IGe G B (own.map (·.2)) (X.blk s H scope (compEnvC scope cl C X.env) fp) tg g) (ht : ∀ (s : Shared) (H : Hp) (C : Addr) (cl : List (Str × Addr)) (fp : List Addr), PTs (X.blk s H scope (compEnvC scope cl C X.env) fp) ifs (tIt G B W0 mt))
    (hk : ∀ (s : Shared) (H : Hp) (C : Addr) (cl : List (Str × Addr)) (fp : List Addr), IE G B W0 (X.blk s H scope (compEnvC scope cl C X.env) fp) kx mk)
    (he : ∀ (s : Shared) (H : Hp) (C : Addr) (cl : List (Str × Addr)) (fp : List Addr), IE G B W0 (X.blk s H scope (compEnvC scope cl C X.env) fp) vx mv) (hc : X.calm = true := by rfl) (hs : ∀ x, foldedSetIterable iter X.env x = pure x := by intro _; rfl)
    (hy : X.N[i]? = some y := by rfl) (hyl : X.env.scope.names.lookup y = some .local := by rfl) (hsw : swapsWith (.DictComp kx vx [⟨tg, iter, ifs, 0⟩] scope pos) (some (.Name y py)) pos'.line X.env = pure true := by rfl) :
    IS G B zs W X (.Assign [.Name y py] (.DictComp kx vx [⟨tg, iter, ifs, 0⟩] scope pos) pos') (sSet i (mDc (own.map (·.2)) g mi mt mk mv)) :=
  PS.imp (ps_setDc hc hN hy hyl hsw hi ok hg ht hk he hs) fun D σ H ⟨c, τ, L, eH, r, o, s, p⟩ => by
  refine dc_ok _ ⟨c, τ, L, eH, r, s, (PostS.bindS (R := RV G) o s p).imp fun u H1 ⟨c1, v, e1, N1, x1, p1⟩ => ?_⟩
  subst e1
  by_cases hl : i < τ.length
  · rw [if_pos hl] at p1
    obtain ⟨L', S, s'⟩ := RS.put N1.rel (o.nxt N1) (s.nxt N1) hl x1
    exact p1 c1 L' _ S rfl s'
  · rw [if_neg hl] at p1
    exact p1.elim
theorem is_setlc2 {elt tg iter tg1 iter1 : Expr} {ifs ifs1 : List Expr} {scope : Scope} {py : Pos} {y : Str} (i : Nat) (own : List (Str × Nat)) (vs1 : List Nat) {g g1 : MG} {me : ME} (hN : X.N.Nodup) (ok : BlkOk X.N X.env.scope scope own) (hi : II G B W X tg iter mi)
    (hg : ∀ (s : Shared) (H : Hp) (C : Addr) (cl : List (Str × Addr)) (fp : List Addr), IGe G B (own.map (·.2)) (X.blk s H scope (compEnvC scope cl C X.env) fp) tg g) (ht : ∀ (s : Shared) (H : Hp) (C : Addr) (cl : List (Str × Addr)) (fp : List Addr), PTs (X.blk s H scope (compEnvC scope cl C X.env) fp) ifs (tIt G B W0 mt))
    (hi1 : ∀ (s : Shared) (H : Hp) (C : Addr) (cl : List (Str × Addr)) (fp : List Addr), II G B W0 (X.blk s H scope (compEnvC scope cl C X.env) fp) tg1 iter1 mi1)
    (hg1 : ∀ (s : Shared) (H : Hp) (C : Addr) (cl : List (Str × Addr)) (fp : List Addr), IGe G B vs1 (X.blk s H scope (compEnvC scope cl C X.env) fp) tg1 g1) (ht1 : ∀ (s : Shared) (H : Hp) (C : Addr) (cl : List (Str × Addr)) (fp : List Addr), PTs (X.blk s H scope (compEnvC scope cl C X.env) fp) ifs1 (tIt G B W0 mt1))
    (he : ∀ (s : Shared) (H : Hp) (C : Addr) (cl : List (Str × Addr)) (fp : List Addr), IE G B W0 (X.blk s H scope (compEnvC scope cl C X.env) fp) elt me) (hv : ∀ i ∈ vs1, i ∈ own.map (·.2) := by decide) (hc : X.calm = true := by rfl) (hs : ∀ x, foldedSetIterable iter X.env x = pure x := by intro _; rfl) (hs1 : ∀ env x, foldedSetIterable iter1 env x = pure x := by intro _ _; rfl)
    (hy : X.N[i]? = some y := by rfl) (hyl : X.env.scope.names.lookup y = some .local := by rfl) (hsw : swapsWith (.ListComp elt [⟨tg, iter, ifs, 0⟩, ⟨tg1, iter1, ifs1, 0⟩] scope pos) (some (.Name y py)) pos'.line X.env = pure true := by rfl) :
    IS G B zs W X (.Assign [.Name y py] (.ListComp elt [⟨tg, iter, ifs, 0⟩, ⟨tg1, iter1, ifs1, 0⟩] scope pos) pos') (sSet i (mLc2 (own.map (·.2)) vs1 g mi mt mi1 g1 mt1 me)) :=
  PS.imp (ps_setLc2 hc hN hy hyl hsw hi ok hv hg ht hi1 hg1 ht1 he hs hs1) fun D σ H ⟨c, τ, L, eH, r, o, s, p⟩ => by
  refine lc2_ok _ _ ⟨c, τ, L, eH, r, s, (PostS.bindS (R := RV G) o s p).imp fun u H1 ⟨c1, v, e1, N1, x1, p1⟩ => ?_⟩
  subst e1
  by_cases hl : i < τ.length
  · rw [if_pos hl] at p1
    obtain ⟨L', S, s'⟩ := RS.put N1.rel (o.nxt N1) (s.nxt N1) hl x1
    exact p1 c1 L' _ S rfl s'
  · rw [if_neg hl] at p1
    exact p1.elim
end
end PI
/-! PIr2: comprehensions of two loops whose list stands on the plain heap. -/
namespace PI
open PySem PySem.Spec PyProof.Rows L2 ClX
section
def fApp (n : Nat) (k : AH → Res AV) : AV → AH → Res AV := fun y h => match h[n]? with
  | some (some (.lst acc)) => if small (acc.length + 1) then k (h.set n (some (.lst (acc ++ [y])))) else .stuck
  | _ => .stuck
def lcIR (g1 : MG) (mt1 : MT) (me : ME) (τ : AS) (n : Nat) (k : AH → Res AV) : List AV → AH → Res AV
  | [], h => k h
  | v :: r, h => match g1 v τ with
    | none => .stuck
    | some τ3 => (noX (mt1 τ3 h)).bind fun b h => if b then (noX (me τ3 h)).bind (fApp n (lcIR g1 mt1 me τ n k r)) else lcIR g1 mt1 me τ n k r h
def lcOR (vs1 : List Nat) (g : MG) (mt : MT) (mi1 : MA) (g1 : MG) (mt1 : MT) (me : ME) (τ : AS) (n : Nat) : List AV → AH → Res AV
  | [], h => .ok (.ref n) h
  | v :: r, h => match g v τ with
    | none => .stuck
    | some τ2 => (noX (mt τ2 h)).bind fun b h => if b then (noX (mi1 τ2 h)).bind fun xs h => lcIR g1 mt1 me (wipeA τ2 vs1) n (lcOR vs1 g mt mi1 g1 mt1 me τ n r) xs h else lcOR vs1 g mt mi1 g1 mt1 me τ n r h
def mLc2R (vs vs1 : List Nat) (g : MG) (mi : MA) (mt : MT) (mi1 : MA) (g1 : MG) (mt1 : MT) (me : ME) : ME := fun τ h => (mi τ h).bind fun xs h => lcOR vs1 g mt mi1 g1 mt1 me (wipeA τ vs) h.length xs (h ++ [some (.lst [])])
variable {G : Gx} {B : Bx} {zs : Addr → Prop} {W : WX} {X : Cx} {c c' : Cfg} {L : List Addr} {τ : AS} {σ : SL} {pos pos' p apos cpos : Pos} {e e2 o a : Expr} {es : List Expr} {m n mo me : ME} {ma mi mi1 mk : MA} {mt mt1 : MT} {x s : Str} {i : Nat} {vs vs1 : List Nat}
theorem lc2r_ok {g g1 : MG} {σ : SL} {H : Hp} {Q : VK} (vs vs1 : List Nat) (t : tI G B W (mLc2R vs vs1 g mi mt mi1 g1 mt1 me) σ H Q) : tLc2 (tIi G B W mi) (tGe G B vs g) (tIt G B W0 mt) (tIi G B W0 mi1) (tGe G B vs1 g1) (tIt G B W0 mt1) (tI G B W0 me) vs vs1 σ H Q := by
  obtain ⟨c, τ, L, eH, rl, s, p⟩ := t
  refine ⟨c, τ, L, eH, rl, s, (Post.bind (R := fun c' (vs : List AV) (J : It) => Goes G c' J vs) p).imp fun J H1 ⟨c1, xs, e1, N1, ⟨Gd, Y, w, hG, hY⟩, p1⟩ => ?_⟩
  subst e1
  have s1 := s.nxt N1
  intro D hD
  obtain ⟨L0, hL0, sw⟩ := s1.wipeAll vs
  have N0 := Nxt.alloc (o := .lst []) (H' := upd c1.H D (.lst [])) N1.rel hD (fun b o z => by rw [upd_ne (ne_of_none z hD)]; exact z) fun c' M e => ⟨[], by rw [e, upd_same], .nil⟩
  refine ⟨fun i k H => ∃ c2 : Cfg, c2.H = H ∧ k + i = xs.length ∧ Nxt G c1 c2 ∧ c1.h.length < c2.h.length ∧ c2.rho c1.h.length = D ∧ Post G (RV G) c2 (fun k d H' => W k d σ H') Q (lcOR vs1 g mt mi1 g1 mt1 me (wipeA τ vs) c1.h.length (xs.drop i) c2.h),
    ⟨xs.length, _, rfl, rfl, N0, by simp, ext_same, Post.trans N0 p1⟩, ?_⟩
  rintro i k H ⟨c2, rfl, hk, N2, hn, hr, p2⟩
  have hg2 := hG c2 N2.mv
  by_cases hi2 : i < xs.length
  · refine .inr ⟨w.goes i c2.H hi2 hg2, fun H' => ∃ k', k' < k ∧ ∃ c3 : Cfg, c3.H = H' ∧ k' + (i + 1) = xs.length ∧ Nxt G c1 c3 ∧ c1.h.length < c3.h.length ∧ c3.rho c1.h.length = D ∧ Post G (RV G) c3 (fun k d H' => W k d σ H') Q (lcOR vs1 g mt mi1 g1 mt1 me (wipeA τ vs) c1.h.length (xs.drop (i + 1)) c3.h), fun H' h => h, fun x H' y => ?_⟩
    obtain ⟨N3, x3⟩ := hY c2 i x H' xs[i] N2.mv N2.rel (by simp [hi2]) (w.yields i c2.H x H' hi2 hg2 y)
    rw [List.drop_eq_getElem_cons hi2] at p2
    unfold lcOR at p2
    cases q : g xs[i] (wipeA τ vs) with
    | none => rw [q] at p2; exact p2.elim
    | some τ2 =>
      rw [q] at p2
      simp only at p2
      have sw3 := (sw.nxt N2).nxt N3
      refine ⟨{ c2 with H := H' }, _, L0, xs[i], τ2, rfl, N3.rel, sw3, x3, q, fun σ2 s2 hw => ⟨hw.trans wipe_idem, { c2 with H := H' }, τ2, L0, rfl, N3.rel, s2, ?_⟩⟩
      revert p2
      cases eT : mt τ2 c2.h with
      | exc _ _ _ => exact fun p2 => p2.elim
      | stuck => exact fun p2 => p2.elim
      | ok b h4 =>
        intro p2 c4 u4 N4 e4 x4
        subst x4
        subst e4
        have p2 := Post.trans (N3.trans N4) p2
        have p2 : Post G (RV G) c4 (fun k d H' => W k d σ H') Q (if b = true then (noX (mi1 τ2 c4.h)).bind fun xs1 h => lcIR g1 mt1 me (wipeA τ2 vs1) c1.h.length (lcOR vs1 g mt mi1 g1 mt1 me (wipeA τ vs) c1.h.length (xs.drop (i + 1))) xs1 h else lcOR vs1 g mt mi1 g1 mt1 me (wipeA τ vs) c1.h.length (xs.drop (i + 1)) c4.h) := p2
        have N14 := N2.trans (N3.trans N4)
        have hn4 : c1.h.length < c4.h.length := Nat.lt_of_lt_of_le hn (N3.trans N4).mv.len
        have hr4 : c4.rho c1.h.length = D := ((N3.trans N4).mv.same _ hn).trans hr
        cases b with
        | false =>
          rw [if_neg Bool.false_ne_true] at p2 ⊢
          exact ⟨k - 1, by omega, c4, rfl, by omega, N14, hn4, hr4, p2⟩
        | true =>
          rw [if_pos rfl] at p2 ⊢
          refine ⟨c4, τ2, L0, rfl, N4.rel, s2.nxt N4, ?_⟩
          revert p2
          cases eE : mi1 τ2 c4.h with
          | exc _ _ _ => exact fun p2 => p2.elim
          | stuck => exact fun p2 => p2.elim
          | ok xs1 h5 =>
            intro p2 c5 J1 N5 e5 x5
            subst e5
            obtain ⟨Gd1, Y1, w1, hG1, hY1⟩ := x5
            have p2 := Post.trans N5 p2
            have p2 : Post G (RV G) c5 (fun k d H' => W k d σ H') Q (lcIR g1 mt1 me (wipeA τ2 vs1) c1.h.length (lcOR vs1 g mt mi1 g1 mt1 me (wipeA τ vs) c1.h.length (xs.drop (i + 1))) xs1 c5.h) := p2
            have N15 := N14.trans N5
            have hn5 : c1.h.length < c5.h.length := Nat.lt_of_lt_of_le hn4 N5.mv.len
            have hr5 : c5.rho c1.h.length = D := (N5.mv.same _ hn4).trans hr4
            have s5 : RS G B c5 L0 τ2 σ2 := (s2.nxt N4).nxt N5
            obtain ⟨L1, hL1, sv⟩ := s5.wipeAll vs1
            refine ⟨fun j l H => ∃ c6 : Cfg, c6.H = H ∧ l + j = xs1.length ∧ Nxt G c5 c6 ∧ Post G (RV G) c6 (fun k d H' => W k d σ H') Q (lcIR g1 mt1 me (wipeA τ2 vs1) c1.h.length (lcOR vs1 g mt mi1 g1 mt1 me (wipeA τ vs) c1.h.length (xs.drop (i + 1))) (xs1.drop j) c6.h),
              ⟨xs1.length, c5, rfl, rfl, .refl N5.rel, p2⟩, ?_⟩
            rintro j l H6 ⟨c6, rfl, hl6, N6, p6⟩
            have hg6 := hG1 c6 N6.mv
            have hn6 : c1.h.length < c6.h.length := Nat.lt_of_lt_of_le hn5 N6.mv.len
            have hr6 : c6.rho c1.h.length = D := (N6.mv.same _ hn5).trans hr5
            by_cases hj : j < xs1.length
            · refine .inr ⟨w1.goes j c6.H hj hg6, fun H' => ∃ l', l' < l ∧ ∃ c7 : Cfg, c7.H = H' ∧ l' + (j + 1) = xs1.length ∧ Nxt G c5 c7 ∧ Post G (RV G) c7 (fun k d H' => W k d σ H') Q (lcIR g1 mt1 me (wipeA τ2 vs1) c1.h.length (lcOR vs1 g mt mi1 g1 mt1 me (wipeA τ vs) c1.h.length (xs.drop (i + 1))) (xs1.drop (j + 1)) c7.h), fun H' h => h, fun x H' y => ?_⟩
              obtain ⟨N7, x7⟩ := hY1 c6 j x H' xs1[j] N6.mv N6.rel (by simp [hj]) (w1.yields j c6.H x H' hj hg6 y)
              rw [List.drop_eq_getElem_cons hj] at p6
              unfold lcIR at p6
              cases q7 : g1 xs1[j] (wipeA τ2 vs1) with
              | none => rw [q7] at p6; exact p6.elim
              | some τ3 =>
                rw [q7] at p6
                simp only at p6
                have sv7 := (sv.nxt N6).nxt N7
                refine ⟨{ c6 with H := H' }, _, L1, xs1[j], τ3, rfl, N7.rel, sv7, x7, q7, fun σ3 s3 hw3 => ⟨hw3.trans wipe_idem, { c6 with H := H' }, τ3, L1, rfl, N7.rel, s3, ?_⟩⟩
                revert p6
                cases eT1 : mt1 τ3 c6.h with
                | exc _ _ _ => exact fun p6 => p6.elim
                | stuck => exact fun p6 => p6.elim
                | ok b8 h8 =>
                  intro p6 c8 u8 N8 e8 x8
                  subst x8
                  subst e8
                  have p6 := Post.trans (N7.trans N8) p6
                  have p6 : Post G (RV G) c8 (fun k d H' => W k d σ H') Q (if b8 = true then (noX (me τ3 c8.h)).bind (fApp c1.h.length (lcIR g1 mt1 me (wipeA τ2 vs1) c1.h.length (lcOR vs1 g mt mi1 g1 mt1 me (wipeA τ vs) c1.h.length (xs.drop (i + 1))) (xs1.drop (j + 1)))) else lcIR g1 mt1 me (wipeA τ2 vs1) c1.h.length (lcOR vs1 g mt mi1 g1 mt1 me (wipeA τ vs) c1.h.length (xs.drop (i + 1))) (xs1.drop (j + 1)) c8.h) := p6
                  have N58 := N6.trans (N7.trans N8)
                  cases b8 with
                  | false =>
                    rw [if_neg Bool.false_ne_true] at p6 ⊢
                    exact ⟨l - 1, by omega, c8, rfl, by omega, N58, p6⟩
                  | true =>
                    rw [if_pos rfl] at p6 ⊢
                    refine ⟨c8, τ3, L1, rfl, N8.rel, s3.nxt N8, ?_⟩
                    revert p6
                    cases eE1 : me τ3 c8.h with
                    | exc _ _ _ => exact fun p6 => p6.elim
                    | stuck => exact fun p6 => p6.elim
                    | ok y9 h9 =>
                      intro p6 c9 u9 N9 e9 x9
                      subst e9
                      have p6 := Post.trans N9 p6
                      have p6 : Post G (RV G) c9 (fun k d H' => W k d σ H') Q (fApp c1.h.length (lcIR g1 mt1 me (wipeA τ2 vs1) c1.h.length (lcOR vs1 g mt mi1 g1 mt1 me (wipeA τ vs) c1.h.length (xs.drop (i + 1))) (xs1.drop (j + 1))) y9 c9.h) := p6
                      unfold fApp at p6
                      split at p6
                      · rename_i acc q5
                        by_cases hl : small (acc.length + 1) = true
                        · rw [if_pos hl] at p6
                          obtain ⟨us, q6, y6⟩ := lst_at N9.rel q5
                          have hr9 : c9.rho c1.h.length = D := ((N58.trans N9).mv.same _ hn5).trans hr5
                          rw [hr9] at q6
                          have N10 := Nxt.write (o' := .lst (acc ++ [y9])) (O := .lst (us ++ [u9])) N9.rel q5 fun c' M e => ⟨_, e, (RVs.append y6 (.cons x9 .nil)).mono M⟩
                          rw [hr9] at N10
                          exact ⟨us, q6, by rw [← y6.length]; exact Nat.lt_of_lt_of_le (Nat.lt_succ_self _) (small_le hl), l - 1, by omega, _, rfl, by omega, (N58.trans N9).trans N10, Post.trans N10 p6⟩
                        · rw [if_neg hl] at p6; exact p6.elim
                      · exact p6.elim
            · have hj0 : j = xs1.length := by omega
              subst hj0
              refine .inl ⟨w1.stops c6.H hg6, ?_⟩
              rw [List.drop_length] at p6
              exact ⟨k - 1, by omega, c6, rfl, by omega, N15.trans N6, hn6, hr6, p6⟩
  · have hk0 : i = xs.length := by omega
    subst hk0
    refine .inl ⟨w.stops c2.H hg2, ?_⟩
    rw [List.drop_length] at p2
    have y : RV G c2 (.ref c1.h.length) (.ref (c2.rho c1.h.length)) := .ref hn
    rw [hr] at y
    exact p2 c2 (.ref D) (.refl N2.rel) rfl y
theorem ie_lc2R {elt tg iter tg1 iter1 : Expr} {ifs ifs1 : List Expr} {scope : Scope} (own : List (Str × Nat)) (vs1 : List Nat) {g g1 : MG} (hN : X.N.Nodup) (ok : BlkOk X.N X.env.scope scope own) (hi : II G B W X tg iter mi)
    (hg : ∀ (s : Shared) (H : Hp) (C : Addr) (cl : List (Str × Addr)) (fp : List Addr), IGe G B (own.map (·.2)) (X.blk s H scope (compEnvC scope cl C X.env) fp) tg g) (ht : ∀ (s : Shared) (H : Hp) (C : Addr) (cl : List (Str × Addr)) (fp : List Addr), PTs (X.blk s H scope (compEnvC scope cl C X.env) fp) ifs (tIt G B W0 mt))
    (hi1 : ∀ (s : Shared) (H : Hp) (C : Addr) (cl : List (Str × Addr)) (fp : List Addr), II G B W0 (X.blk s H scope (compEnvC scope cl C X.env) fp) tg1 iter1 mi1)
    (hg1 : ∀ (s : Shared) (H : Hp) (C : Addr) (cl : List (Str × Addr)) (fp : List Addr), IGe G B vs1 (X.blk s H scope (compEnvC scope cl C X.env) fp) tg1 g1) (ht1 : ∀ (s : Shared) (H : Hp) (C : Addr) (cl : List (Str × Addr)) (fp : List Addr), PTs (X.blk s H scope (compEnvC scope cl C X.env) fp) ifs1 (tIt G B W0 mt1))
    (he : ∀ (s : Shared) (H : Hp) (C : Addr) (cl : List (Str × Addr)) (fp : List Addr), IE G B W0 (X.blk s H scope (compEnvC scope cl C X.env) fp) elt me) (hv : ∀ i ∈ vs1, i ∈ own.map (·.2) := by decide) (hc : X.calm = true := by rfl) (hs : ∀ x, foldedSetIterable iter X.env x = pure x := by intro _; rfl) (hs1 : ∀ env x, foldedSetIterable iter1 env x = pure x := by intro _ _; rfl) :
    IE G B W X (.ListComp elt [⟨tg, iter, ifs, 0⟩, ⟨tg1, iter1, ifs1, 0⟩] scope pos) (mLc2R (own.map (·.2)) vs1 g mi mt mi1 g1 mt1 me) :=
  PE.imp (pe_lc2 hc hN hi ok hv hg ht hi1 hg1 ht1 he hs hs1) fun _ _ _ t => lc2r_ok _ _ t
theorem is_setlc2R {elt tg iter tg1 iter1 : Expr} {ifs ifs1 : List Expr} {scope : Scope} {py : Pos} {y : Str} (i : Nat) (own : List (Str × Nat)) (vs1 : List Nat) {g g1 : MG} {me : ME} (hN : X.N.Nodup) (ok : BlkOk X.N X.env.scope scope own) (hi : II G B W X tg iter mi)
    (hg : ∀ (s : Shared) (H : Hp) (C : Addr) (cl : List (Str × Addr)) (fp : List Addr), IGe G B (own.map (·.2)) (X.blk s H scope (compEnvC scope cl C X.env) fp) tg g) (ht : ∀ (s : Shared) (H : Hp) (C : Addr) (cl : List (Str × Addr)) (fp : List Addr), PTs (X.blk s H scope (compEnvC scope cl C X.env) fp) ifs (tIt G B W0 mt))
    (hi1 : ∀ (s : Shared) (H : Hp) (C : Addr) (cl : List (Str × Addr)) (fp : List Addr), II G B W0 (X.blk s H scope (compEnvC scope cl C X.env) fp) tg1 iter1 mi1)
    (hg1 : ∀ (s : Shared) (H : Hp) (C : Addr) (cl : List (Str × Addr)) (fp : List Addr), IGe G B vs1 (X.blk s H scope (compEnvC scope cl C X.env) fp) tg1 g1) (ht1 : ∀ (s : Shared) (H : Hp) (C : Addr) (cl : List (Str × Addr)) (fp : List Addr), PTs (X.blk s H scope (compEnvC scope cl C X.env) fp) ifs1 (tIt G B W0 mt1))
    (he : ∀ (s : Shared) (H : Hp) (C : Addr) (cl : List (Str × Addr)) (fp : List Addr), IE G B W0 (X.blk s H scope (compEnvC scope cl C X.env) fp) elt me) (hv : ∀ i ∈ vs1, i ∈ own.map (·.2) := by decide) (hc : X.calm = true := by rfl) (hs : ∀ x, foldedSetIterable iter X.env x = pure x := by intro _; rfl) (hs1 : ∀ env x, foldedSetIterable iter1 env x = pure x := by intro _ _; rfl)
    (hy : X.N[i]? = some y := by rfl) (hyl : X.env.scope.names.lookup y = some .local := by rfl) (hsw : swapsWith (.ListComp elt [⟨tg, iter, ifs, 0⟩, ⟨tg1, iter1, ifs1, 0⟩] scope pos) (some (.Name y py)) pos'.line X.env = pure true := by rfl) :
    IS G B zs W X (.Assign [.Name y py] (.ListComp elt [⟨tg, iter, ifs, 0⟩, ⟨tg1, iter1, ifs1, 0⟩] scope pos) pos') (sSet i (mLc2R (own.map (·.2)) vs1 g mi mt mi1 g1 mt1 me)) :=
  PS.imp (ps_setLc2 hc hN hy hyl hsw hi ok hv hg ht hi1 hg1 ht1 he hs hs1) fun D σ H ⟨c, τ, L, eH, r, o, s, p⟩ => by
  refine lc2r_ok _ _ ⟨c, τ, L, eH, r, s, (PostS.bindS (R := RV G) o s p).imp fun u H1 ⟨c1, v, e1, N1, x1, p1⟩ => ?_⟩
  subst e1
  by_cases hl : i < τ.length
  · rw [if_pos hl] at p1
    obtain ⟨L', S, s'⟩ := RS.put N1.rel (o.nxt N1) (s.nxt N1) hl x1
    exact p1 c1 L' _ S rfl s'
  · rw [if_neg hl] at p1
    exact p1.elim
end
end PI
/-! PIad: lists added, the sum on the plain heap; machines of PIzt.. by simp. -/
namespace PI
open PySem PySem.Spec PyProof.Rows L2 ClX
section
variable {G : Gx} {B : Bx} {zs : Addr → Prop} {W : WX} {X : Cx} {c c' : Cfg} {τ : AS} {h : AH}
def kAddR (v w : AV) (h : AH) : Option (AV × AH) := match lstOf v h, lstOf w h with
  | some xs, some ys => if small (xs.length + ys.length) then some (.ref h.length, h ++ [some (.lst (xs ++ ys))]) else none
  | _, _ => none
theorem ao_addR (hK : X.K = G.K) : AO2 G kAddR (rAddA X.K) := fun c v w u x Q r xv xw p => by
  unfold kAddR at p
  cases q1 : lstOf v c.h with
  | none => rw [q1] at p; exact p.elim
  | some xs =>
    cases q2 : lstOf w c.h with
    | none => rw [q1, q2] at p; exact p.elim
    | some ys =>
      rw [q1, q2] at p
      simp only at p
      by_cases hl : small (xs.length + ys.length) = true
      · rw [if_pos hl] at p
        obtain ⟨a, us, rfl, h1, y1⟩ := lst_rv (X := X) hK r xv q1
        obtain ⟨b, us2, rfl, h2, y2⟩ := lst_rv (X := X) hK r xw q2
        refine .inl (.inr ⟨a, b, us, us2, rfl, rfl, h1, h2, by rw [← y1.length, ← y2.length]; exact small_le hl, fun l ha => ?_⟩)
        have N := Nxt.alloc (o := .lst (xs ++ ys)) (H' := upd c.H l (.lst (us ++ us2))) r ha (fun b o z => by rw [upd_ne (ne_of_none z ha)]; exact z) fun c' M e => ⟨us ++ us2, by rw [e, upd_same], (RVs.append y1 y2).mono M⟩
        have y : RV G { c with rho := ext c.rho c.h.length l, h := c.h ++ [some (.lst (xs ++ ys))], H := upd c.H l (.lst (us ++ us2)) } (.ref c.h.length) (.ref (ext c.rho c.h.length l c.h.length)) := .ref (by simp)
        rw [ext_same] at y
        exact p _ _ N rfl y
      · rw [if_neg hl] at p; exact p.elim
end
section
variable {τ : AS} {h : AH} {ma : MA} {m n mo me mk mv : ME} {mi mi1 : MA} {mt mt1 : MT} {g g1 : MG} {vs vs1 : List Nat}
def fZipA : List AV → AH → Res (List AV) := fun vs h => match vs with
  | [.fl xs, .fl ys] => .ok (zipA xs ys) h
  | [.tup xs, .tup ys] => .ok (zipA xs ys) h
  | _ => .stuck
@[simp] theorem mZipA_ev : mZipA ma τ h = (ma τ h).bind fZipA := rfl
@[simp] theorem fZipA_l {xs ys : List AV} : fZipA [.fl xs, .fl ys] h = .ok (zipA xs ys) h := rfl
@[simp] theorem fZipA_t {xs ys : List AV} : fZipA [.tup xs, .tup ys] h = .ok (zipA xs ys) h := rfl
@[simp] theorem kTupF_l {xs : List AV} : kTupF [.fl xs] h = some (.tup xs, h) := rfl
@[simp] theorem kTupF_t {xs : List AV} : kTupF [.tup xs] h = some (.tup xs, h) := rfl
def fBMf2 (k : List AV → List AV → AH → Option (AV × AH)) (xs : List AV) : List AV → AH → Res AV := fun vs h => .of (k xs vs h)
def fBMf (k : List AV → List AV → AH → Option (AV × AH)) (ma : MA) (τ : AS) : AV → AH → Res AV := fun v h => match v with
  | .fl xs => (ma τ h).bind (fBMf2 k xs)
  | _ => .stuck
@[simp] theorem mBMf_ev {k : List AV → List AV → AH → Option (AV × AH)} : mBMf k mo ma τ h = (mo τ h).bind (fBMf k ma τ) := rfl
@[simp] theorem fBMf_ev {k : List AV → List AV → AH → Option (AV × AH)} {xs : List AV} : fBMf k ma τ (.fl xs) h = (ma τ h).bind (fBMf2 k xs) := rfl
@[simp] theorem fBMf2_ev {k : List AV → List AV → AH → Option (AV × AH)} {xs us : List AV} : fBMf2 k xs us h = .of (k xs us h) := rfl
def fLc2 (vs1 : List Nat) (g : MG) (mt : MT) (mi1 : MA) (g1 : MG) (mt1 : MT) (me : ME) (τ : AS) : List AV → AH → Res AV := fun xs h => lcO vs1 g mt mi1 g1 mt1 me τ xs [] h
@[simp] theorem mLc2_ev : mLc2 vs vs1 g mi mt mi1 g1 mt1 me τ h = (mi τ h).bind (fLc2 vs1 g mt mi1 g1 mt1 me (wipeA τ vs)) := rfl
def fLc2R (vs1 : List Nat) (g : MG) (mt : MT) (mi1 : MA) (g1 : MG) (mt1 : MT) (me : ME) (τ : AS) : List AV → AH → Res AV := fun xs h => lcOR vs1 g mt mi1 g1 mt1 me τ h.length xs (h ++ [some (.lst [])])
@[simp] theorem mLc2R_ev : mLc2R vs vs1 g mi mt mi1 g1 mt1 me τ h = (mi τ h).bind (fLc2R vs1 g mt mi1 g1 mt1 me (wipeA τ vs)) := rfl
def fDc (g : MG) (mt : MT) (mk mv : ME) (τ : AS) : List AV → AH → Res AV := fun xs h => dcL g mt mk mv τ xs [] h
@[simp] theorem mDc_ev : mDc vs g mi mt mk mv τ h = (mi τ h).bind (fDc g mt mk mv (wipeA τ vs)) := rfl
@[simp] theorem kOwn2_obj {kc kd : Nat} {f : FN} {fs gs : List (Nat × AV)} : kOwn2 kc kd f (.obj kc fs) (.obj kd gs) h = okV (f [.obj kc fs, .obj kd gs] h) := by unfold kOwn2; simp [fldsOf]
@[simp] theorem okV_ok {v : AV} : okV (.ok v h) = some (v, h) := rfl
end
end PI
/-! PIdl: what comprehensions give when their parts leave the plain heap alone. -/
namespace PI
open PySem PySem.Spec PyProof.Rows L2
theorem small_of {n : Nat} (h : n ≤ 16777216) : small n = true := by unfold small; simpa using h
theorem any_not {kvs : List (Key × AV)} {k : Key} (h : k ∉ kvs.map (·.1)) : (kvs.any fun kv => decide (kv.1 = k)) = false := by
  rw [List.any_eq_false]
  intro x hx
  simp only [decide_eq_true_eq]
  exact fun e => h (e ▸ List.mem_map_of_mem hx)
theorem dcL_map {g : MG} {mk mv : ME} {τ : AS} {h : AH} (kf : AV → Key) (vf : AV → AV) : ∀ (vs : List AV) (acc : List (Key × AV)), (∀ v, v ∈ vs → ∃ τ2 y, g v τ = some τ2 ∧ mk τ2 h = .ok y h ∧ keyA y = some (kf v) ∧ mv τ2 h = .ok (vf v) h) →
    (acc.map (·.1) ++ vs.map kf).Nodup → acc.length + vs.length ≤ 16777216 → dcL g mYes mk mv τ vs acc h = .ok (.fd (acc ++ vs.map fun v => (kf v, vf v))) h
  | [], acc, _, _, _ => by rw [dcL]; simp
  | v :: r, acc, H, nd, hl => by
    obtain ⟨τ2, y, e1, e2, e3, e4⟩ := H v (by simp)
    have hk : kf v ∉ acc.map (·.1) := by
      rw [List.nodup_append] at nd
      exact fun q => nd.2.2 _ q _ (by simp) rfl
    have hp : putA acc (kf v) (vf v) = acc ++ [(kf v, vf v)] := by unfold putA; rw [any_not hk]; simp
    have ih := dcL_map kf vf r (acc ++ [(kf v, vf v)]) (fun w hw => H w (by simp [hw])) (by simpa using nd) (by simp at hl ⊢; omega)
    have hs : small (acc.length + 1) = true := small_of (by simp at hl; omega)
    rw [dcL, e1]
    simp only [mYes, noX, bind_ok, if_true, e2, dcF1, e3, e4, dcF2, hs, hp, ih]
    simp
theorem lcR_filter {g : MG} {mt : MT} {me : ME} {τ : AS} {n : Nat} (p : AV → Bool) (f : AV → AV) : ∀ (vs : List AV) (acc : List AV) (h : AH), (∀ v, v ∈ vs → ∃ τ2, g v τ = some τ2 ∧ ∀ h, mt τ2 h = .ok (p v) h ∧ (p v = true → me τ2 h = .ok (f v) h)) →
    h[n]? = some (some (.lst acc)) → acc.length + vs.length ≤ 16777216 → lcR g mt me τ n vs h = .ok (.ref n) (h.set n (some (.lst (acc ++ (vs.filter p).map f))))
  | [], acc, h, _, e, _ => by
    obtain ⟨hl, e'⟩ := List.getElem?_eq_some_iff.mp e
    rw [lcR]
    simp only [List.filter_nil, List.map_nil, List.append_nil]
    congr 1
    rw [← e', List.set_getElem_self]
  | v :: r, acc, h, H, e, hl => by
    obtain ⟨τ2, e1, e2⟩ := H v (by simp)
    obtain ⟨hlt, _⟩ := List.getElem?_eq_some_iff.mp e
    obtain ⟨e3, e4⟩ := e2 h
    rw [lcR, e1]
    simp only [e3, noX, bind_ok]
    cases hp : p v with
    | false =>
      rw [if_neg Bool.false_ne_true, lcR_filter p f r acc h (fun w hw => H w (by simp [hw])) e (by simp at hl; omega), List.filter_cons_of_neg (by simp [hp])]
    | true =>
      have hs : small (acc.length + 1) = true := small_of (by simp at hl; omega)
      rw [if_pos rfl, e4 hp]
      simp only [bind_ok, e, hs, if_true]
      rw [lcR_filter p f r (acc ++ [f v]) _ (fun w hw => H w (by simp [hw])) (by simp [hlt]) (by simp at hl ⊢; omega), List.set_set, List.filter_cons_of_pos hp]
      simp
theorem lcIR_map {g1 : MG} {me : ME} {τ : AS} {n : Nat} {k : AH → Res AV} (f : AV → AV) : ∀ (vs : List AV) (acc : List AV) (h : AH), (∀ v, v ∈ vs → ∃ τ3, g1 v τ = some τ3 ∧ ∀ h, me τ3 h = .ok (f v) h) →
    h[n]? = some (some (.lst acc)) → acc.length + vs.length ≤ 16777216 → lcIR g1 mYes me τ n k vs h = k (h.set n (some (.lst (acc ++ vs.map f))))
  | [], acc, h, _, e, _ => by
    obtain ⟨hl, e'⟩ := List.getElem?_eq_some_iff.mp e
    rw [lcIR]
    simp only [List.map_nil, List.append_nil]
    congr 1
    rw [← e', List.set_getElem_self]
  | v :: r, acc, h, H, e, hl => by
    obtain ⟨τ3, e1, e2⟩ := H v (by simp)
    obtain ⟨hlt, _⟩ := List.getElem?_eq_some_iff.mp e
    have hs : small (acc.length + 1) = true := small_of (by simp at hl; omega)
    rw [lcIR, e1]
    simp only [mYes, noX, bind_ok, if_true, e2, fApp, e, hs]
    rw [lcIR_map f r (acc ++ [f v]) _ (fun w hw => H w (by simp [hw])) (by simp [hlt]) (by simp at hl ⊢; omega), List.set_set]
    simp
theorem lcOR_map {vs1 : List Nat} {g g1 : MG} {mi1 : MA} {me : ME} {τ : AS} {n : Nat} (xf : AV → List AV) (f : AV → AV → AV) : ∀ (vs : List AV) (acc : List AV) (h : AH),
    (∀ v, v ∈ vs → ∃ τ2, g v τ = some τ2 ∧ (∀ h, mi1 τ2 h = .ok (xf v) h) ∧ ∀ x, x ∈ xf v → ∃ τ3, g1 x (wipeA τ2 vs1) = some τ3 ∧ ∀ h, me τ3 h = .ok (f v x) h) →
    h[n]? = some (some (.lst acc)) → acc.length + (vs.flatMap fun v => (xf v).map (f v)).length ≤ 16777216 → lcOR vs1 g mYes mi1 g1 mYes me τ n vs h = .ok (.ref n) (h.set n (some (.lst (acc ++ vs.flatMap fun v => (xf v).map (f v)))))
  | [], acc, h, _, e, _ => by
    obtain ⟨hl, e'⟩ := List.getElem?_eq_some_iff.mp e
    rw [lcOR]
    simp only [List.flatMap_nil, List.append_nil]
    congr 1
    rw [← e', List.set_getElem_self]
  | v :: r, acc, h, H, e, hl => by
    obtain ⟨τ2, e1, e2, e3⟩ := H v (by simp)
    obtain ⟨hlt, _⟩ := List.getElem?_eq_some_iff.mp e
    simp only [List.flatMap_cons, List.length_append, List.length_map] at hl
    rw [lcOR, e1]
    simp only [mYes, noX, bind_ok, if_true, e2]
    rw [lcIR_map (f v) (xf v) acc h e3 e (by omega)]
    rw [lcOR_map xf f r (acc ++ (xf v).map (f v)) _ (fun w hw => H w (by simp [hw])) (by simp [hlt]) (by simp only [List.length_append, List.length_map]; omega), List.set_set]
    simp
/-! texts compared -/
theorem eqvAll_strs : ∀ (ss ts : List Str), PyData.eqvAll (ss.map .str) (ts.map .str) = decide (ss = ts)
  | [], [] => by simp [PyData.eqvAll]
  | [], _ :: _ => by simp [PyData.eqvAll]
  | _ :: _, [] => by simp [PyData.eqvAll]
  | a :: ss, b :: ts => by
    simp only [List.map_cons, PyData.eqvAll, PyData.eqv, eqvAll_strs ss ts]
    by_cases h : a = b <;> simp [h]
theorem mapM_strs {f : AV → Option PyData} (hf : ∀ z, f (.str z) = some (.str z)) : ∀ ss : List Str, (ss.map AV.str).mapM f = some (ss.map PyData.str)
  | [] => rfl
  | a :: ss => by simp [List.mapM_cons, hf, mapM_strs hf ss]
theorem dat_strs (n : Nat) (ss : List Str) : dat (n + 1) (.tup (ss.map .str)) = some (.tuple (ss.map .str)) := by
  rw [dat, mapM_strs (fun z => by cases n <;> rfl)]; rfl
theorem datH_lst {h : AH} {n : Nat} {v : AV} {xs : List AV} {ds : List PyData} (e : lstOf v h = some xs) (q : xs.mapM (datH h n) = some ds) : datH h (n + 1) v = some (.list ds) := by
  cases v with
  | fl ys => cases e; rw [datH, q]; rfl
  | ref m =>
    unfold lstOf at e
    simp only at e
    split at e
    · rename_i q2
      cases e
      show (match h[m]? with | some (some (.lst xs)) => (xs.mapM (datH h n)).map PyData.list | _ => none) = _
      rw [q2]
      simp only [q]
      rfl
    · cases e
  | _ => cases e
theorem datH_strs {h : AH} {v : AV} {ss : List Str} (e : lstOf v h = some (ss.map .str)) : datH h 12 v = some (.list (ss.map .str)) := datH_lst e (mapM_strs (fun _ => rfl) ss)
theorem eqH_strs {h : AH} {v w : AV} {ss ts : List Str} (e : lstOf v h = some (ss.map .str)) (q : lstOf w h = some (ts.map .str)) : kEqH v w h = some (.bl (decide (ss = ts)), h) := by
  rw [kEqH_of (datH_strs e) (datH_strs q)]
  simp only [PyData.eqv, eqvAll_strs]
theorem neH_strs {h : AH} {v w : AV} {ss ts : List Str} (e : lstOf v h = some (ss.map .str)) (q : lstOf w h = some (ts.map .str)) : kNeH v w h = some (.bl (!decide (ss = ts)), h) := by
  rw [kNeH_of (datH_strs e) (datH_strs q)]
  simp only [PyData.eqv, eqvAll_strs]
theorem eq_tups {ss ts : List Str} (h : AH) : kEq (.tup (ss.map .str)) (.tup (ts.map .str)) h = some (.bl (decide (ss = ts)), h) := by
  unfold kEq
  rw [dat_strs, dat_strs]
  simp only [PyData.eqv, eqvAll_strs]
def prA (p : Str × Str) : AV := .fl [.str p.1, .str p.2]
theorem mapM_prs {h : AH} {n : Nat} : ∀ ps : List (Str × Str), (ps.map prA).mapM (datH h (n + 1)) = some (ps.map fun p => .list [.str p.1, .str p.2])
  | [] => rfl
  | p :: ps => by
    have : datH h (n + 1) (prA p) = some (.list [.str p.1, .str p.2]) := by unfold prA; rw [datH]; cases n <;> rfl
    simp [List.mapM_cons, this, mapM_prs ps]
theorem eqvAll_prs : ∀ ps : List (Str × Str), PyData.eqvAll (ps.map fun p => .list [.str p.1, .str p.2]) (ps.map fun p => .list [.str p.1, .str p.2]) = true
  | [] => by simp [PyData.eqvAll]
  | p :: ps => by simp [PyData.eqvAll, PyData.eqv, eqvAll_prs ps]
theorem neH_prs {h : AH} {v w : AV} {ps : List (Str × Str)} (e : lstOf v h = some (ps.map prA)) (q : lstOf w h = some (ps.map prA)) : kNeH v w h = some (.bl false, h) := by
  rw [kNeH_of (datH_lst e (mapM_prs ps)) (datH_lst q (mapM_prs ps))]
  simp only [PyData.eqv, eqvAll_prs]
  rfl
theorem eqH_prs {h : AH} {v w : AV} {ps : List (Str × Str)} (e : lstOf v h = some (ps.map prA)) (q : lstOf w h = some (ps.map prA)) : kEqH v w h = some (.bl true, h) := by
  rw [kEqH_of (datH_lst e (mapM_prs ps)) (datH_lst q (mapM_prs ps))]
  simp only [PyData.eqv, eqvAll_prs]
end PI
/-! PIdd: dicts of the plain heap. -/
namespace PI
open PySem PySem.Spec PyProof.Rows L2 ClX
theorem OpR.or {X : Cx} {f : Value → Value → Sem Value} {r r' : R2} (a : OpR X f r) (b : OpR X f r') : OpR X f (fun x y H Q => r x y H Q ∨ r' x y H Q) :=
  fun pins s σ H x y v u Q I rx ry h => h.elim (a pins s σ H x y v u Q I rx ry) (b pins s σ H x y v u Q I rx ry)
theorem CallR.or {X : Cx} {f : Value} {r r' : List V → Hp → VK → Prop} (a : CallR X f r) (b : CallR X f r') : CallR X f (fun x H Q => r x H Q ∨ r' x H Q) :=
  fun pins s σ H xs us Q I rx h => h.elim (a pins s σ H xs us Q I rx) (b pins s σ H xs us Q I rx)
theorem PE.or {X : Cx} {e : Expr} {t t' : TE} (h : PE X e t) (h' : PE X e t') : PE X e (fun σ H Q => t σ H Q ∨ t' σ H Q) :=
  ⟨fun pins s σ H Q I q => q.elim (h.run pins s σ H Q I) (h'.run pins s σ H Q I)⟩
theorem PS.or {X : Cx} {st : Stmt} {t t' : TS} (h : PS X st t) (h' : PS X st t') : PS X st (fun D σ H => t D σ H ∨ t' D σ H) :=
  ⟨fun pins s σ H D I q => q.elim (h.run pins s σ H D I) (h'.run pins s σ H D I)⟩
section
variable {G : Gx} {B : Bx} {zs : Addr → Prop} {W : WX} {X : Cx} {c c' : Cfg} {L : List Addr} {τ : AS} {σ : SL} {pos pos' p apos cpos tpos : Pos} {e o a b f : Expr} {es : List Expr} {m n mo me mi mx : ME} {ma mk : MA} {mt : MT} {x s : Str} {i : Nat} {vs : List Nat}
theorem post_allocD {W : XK} {Q : VK} {xs : List (Key × AV)} {us : List (Key × V)} {q : Addr} (r : Rel G c) (x : RVd G c xs us) (hq : c.H q = none) (p : PostO G c Q (some (.ref c.h.length, c.h ++ [some (.dk xs)]))) : Q (.ref q) (upd c.H q (.dK us)) := by
  have N := Nxt.alloc (o := .dk xs) (H' := upd c.H q (.dK us)) r hq (fun b o z => by rw [upd_ne (ne_of_none z hq)]; exact z) fun c' M e => ⟨us, by rw [e, upd_same], x.mono M⟩
  have y : RV G { c with rho := ext c.rho c.h.length q, h := c.h ++ [some (.dk xs)], H := upd c.H q (.dK us) } (.ref c.h.length) (.ref (ext c.rho c.h.length q c.h.length)) := .ref (by simp)
  rw [ext_same] at y
  exact p _ _ N rfl y
theorem post_allocL {W : XK} {Q : VK} {xs : List AV} {us : List V} {q : Addr} (r : Rel G c) (x : RVs G c xs us) (hq : c.H q = none) (p : PostO G c Q (some (.ref c.h.length, c.h ++ [some (.lst xs)]))) : Q (.ref q) (upd c.H q (.lst us)) := by
  have N := Nxt.alloc (o := .lst xs) (H' := upd c.H q (.lst us)) r hq (fun b o z => by rw [upd_ne (ne_of_none z hq)]; exact z) fun c' M e => ⟨us, by rw [e, upd_same], x.mono M⟩
  have y : RV G { c with rho := ext c.rho c.h.length q, h := c.h ++ [some (.lst xs)], H := upd c.H q (.lst us) } (.ref c.h.length) (.ref (ext c.rho c.h.length q c.h.length)) := .ref (by simp)
  rw [ext_same] at y
  exact p _ _ N rfl y
theorem post_newD {Q : VK} {xs : List (Key × AV)} {us : List (Key × V)} {q : Addr} (r : Rel G c) (x : RVd G c xs us) (hq : c.H q = none) (p : PostO G c Q (some (.fd xs, c.h))) : Q (.ref q) (upd c.H q (.dK us)) := by
  have N := Nxt.temp (O := .dK us) r hq
  exact p _ _ N rfl (.fd (.inl upd_same) (r.frz hq) (x.mono N.mv))
/-! {} -/
def mDNew : ME := fun _ h => .ok (.ref h.length) (h ++ [some (.dk [])])
theorem ie_dnew : IE G B W X (.Dict [] [] pos) mDNew := PE.imp pe_dnewK fun σ H Q ⟨c, τ, L, eH, rl, s, p⟩ => by
  subst eH
  exact fun q hq => post_allocD (W := fun _ _ _ => False) rl .nil hq p
@[simp] theorem mDNew_ev {h : AH} : mDNew τ h = .ok (.ref h.length) (h ++ [some (.dk [])]) := rfl
/-! d[k] = v -/
def fDPut2 (v w : AV) (τ : AS) : AV → AH → SRes := fun k h => match w with
  | .ref n => match h[n]? with
    | some (some (.dk xs)) => match keyA k with
      | some kk => if small (xs.length + 1) then .nx τ (h.set n (some (.dk (putA xs kk v)))) else .stuck
      | none => .stuck
    | _ => .stuck
  | _ => .stuck
def fDPut1 (mi : ME) (v : AV) (τ : AS) : AV → AH → SRes := fun w h => (mi τ h).bindS τ (fDPut2 v w τ)
def fDPut (mo mi : ME) (τ : AS) : AV → AH → SRes := fun v h => (mo τ h).bindS τ (fDPut1 mi v τ)
def sDPutM (mo mi me : ME) : MS := fun τ h => (me τ h).bindS τ (fDPut mo mi τ)
@[simp] theorem sDPutM_ev {h : AH} : sDPutM mo mi me τ h = (me τ h).bindS τ (fDPut mo mi τ) := rfl
@[simp] theorem fDPut_ev {h : AH} {v : AV} : fDPut mo mi τ v h = (mo τ h).bindS τ (fDPut1 mi v τ) := rfl
@[simp] theorem fDPut1_ev {h : AH} {v w : AV} : fDPut1 mi v τ w h = (mi τ h).bindS τ (fDPut2 v w τ) := rfl
@[simp] theorem fDPut2_ev {h : AH} {v k : AV} {j : Nat} : fDPut2 v (.ref j) τ k h = match h[j]? with
    | some (some (.dk xs)) => match keyA k with
      | some kk => if small (xs.length + 1) then .nx τ (h.set j (some (.dk (putA xs kk v)))) else .stuck
      | none => .stuck
    | _ => .stuck := rfl
theorem is_dput (hu : X.A.units + 1 < cLine) (he : IE G B W X e me) (ho : IE G B W X o mo) (hi : IE G B W X a mi) (hs : swapsWith e (some (.Subscript o a pos')) pos.line X.env = pure false := by rfl) :
    IS G B zs W X (.Assign [.Subscript o a pos'] e pos) (sDPutM mo mi me) := PS.imp (ps_dput hu ho hi he hs) fun D σ H ⟨c, τ, L, eH, r, o, s, p⟩ => by
  refine ⟨c, τ, L, eH, r, s, (PostS.bindS (R := RV G) o s p).imp fun u H1 ⟨c1, v, e1, N1, x1, p1⟩ => ?_⟩
  refine ⟨c1, τ, L, e1, N1.rel, s.nxt N1, (PostS.bindS (R := RV G) (o.nxt N1) (s.nxt N1) p1).imp fun u2 H2 ⟨c2, w, e2, N2, x2, p2⟩ => ?_⟩
  refine ⟨c2, τ, L, e2, N2.rel, (s.nxt N1).nxt N2, (PostS.bindS (R := RV G) ((o.nxt N1).nxt N2) ((s.nxt N1).nxt N2) p2).imp fun u3 H3 ⟨c3, k, e3, N3, x3, p3⟩ => ?_⟩
  subst e3
  have x2' := x2.mono N3.mv
  unfold fDPut2 at p3
  cases x2' with
  | @ref n hn =>
    simp only at p3
    split at p3
    · rename_i xs q
      split at p3
      · rename_i kk q4
        by_cases hl : small (xs.length + 1) = true
        · rw [if_pos hl] at p3
          obtain ⟨us, q1, y⟩ := N3.rel.obj n _ q
          obtain ⟨ek, hk⟩ := key_rv x3 q4
          have x1' := (x1.mono N2.mv).mono N3.mv
          have N4 := Nxt.write (o' := .dk (putA xs kk v)) (O := .dK (putK us kk u)) N3.rel q fun c4 M e4 => ⟨_, e4, (y.put hk x1').mono M⟩
          subst ek
          exact ⟨_, _, rfl, DPut.k q1 (by rw [← y.length]; exact Nat.lt_of_lt_of_le (Nat.lt_succ_self _) (small_le hl)), p3 _ L σ (Stp.of N4 (((o.nxt N1).nxt N2).nxt N3)) rfl ((((s.nxt N1).nxt N2).nxt N3).nxt N4)⟩
        · rw [if_neg hl] at p3; exact p3.elim
      · exact p3.elim
    · exact p3.elim
  | _ => exact p3.elim
/-! del d[k] -/
def fDDel2 (w : AV) (τ : AS) : AV → AH → SRes := fun k h => match w with
  | .ref n => match h[n]? with
    | some (some (.dk xs)) => match keyA k with
      | some kk => if (valA xs kk).isSome then .nx τ (h.set n (some (.dk (dropA xs kk)))) else .stuck
      | none => .stuck
    | _ => .stuck
  | _ => .stuck
def fDDel1 (mi : ME) (τ : AS) : AV → AH → SRes := fun w h => (mi τ h).bindS τ (fDDel2 w τ)
def sDDelM (mo mi : ME) : MS := fun τ h => (mo τ h).bindS τ (fDDel1 mi τ)
@[simp] theorem sDDelM_ev {h : AH} : sDDelM mo mi τ h = (mo τ h).bindS τ (fDDel1 mi τ) := rfl
@[simp] theorem fDDel1_ev {h : AH} {w : AV} : fDDel1 mi τ w h = (mi τ h).bindS τ (fDDel2 w τ) := rfl
@[simp] theorem fDDel2_ev {h : AH} {k : AV} {j : Nat} : fDDel2 (.ref j) τ k h = match h[j]? with
    | some (some (.dk xs)) => match keyA k with
      | some kk => if (valA xs kk).isSome then .nx τ (h.set j (some (.dk (dropA xs kk)))) else .stuck
      | none => .stuck
    | _ => .stuck := rfl
theorem RVd.some {xs : List (Key × AV)} {us : List (Key × V)} (r : RVd G c xs us) (k : Key) : (valV us k).isSome = (valA xs k).isSome := by
  have h := r.val k
  cases q : valA xs k with
  | none => rw [q] at h; simp only at h; rw [h]; rfl
  | some v => rw [q] at h; simp only at h; obtain ⟨u, e, _⟩ := h; rw [e]; rfl
theorem is_ddel (ho : IE G B W X o mo) (hi : IE G B W X a mi) : IS G B zs W X (.Delete [.Subscript o a tpos] pos) (sDDelM mo mi) := PS.imp (ps_ddel ho hi) fun D σ H ⟨c, τ, L, eH, r, o, s, p⟩ => by
  refine ⟨c, τ, L, eH, r, s, (PostS.bindS (R := RV G) o s p).imp fun u H1 ⟨c1, v, e1, N1, x1, p1⟩ => ?_⟩
  refine ⟨c1, τ, L, e1, N1.rel, s.nxt N1, (PostS.bindS (R := RV G) (o.nxt N1) (s.nxt N1) p1).imp fun u2 H2 ⟨c2, w, e2, N2, x2, p2⟩ => ?_⟩
  subst e2
  have x1' := x1.mono N2.mv
  unfold fDDel2 at p2
  cases x1' with
  | @ref n hn =>
    simp only at p2
    split at p2
    · rename_i xs q
      split at p2
      · rename_i kk q4
        by_cases hl : (valA xs kk).isSome = true
        · rw [if_pos hl] at p2
          obtain ⟨us, q1, y⟩ := N2.rel.obj n _ q
          obtain ⟨ek, hk⟩ := key_rv x2 q4
          have N4 := Nxt.write (o' := .dk (dropA xs kk)) (O := .dK (dropK us kk)) N2.rel q fun c4 M e4 => ⟨_, e4, y.drop.mono M⟩
          exact ⟨_, us, kk, rfl, q1, ek, (y.some kk).trans hl, p2 _ L σ (Stp.of N4 ((o.nxt N1).nxt N2)) rfl (((s.nxt N1).nxt N2).nxt N4)⟩
        · rw [if_neg hl] at p2; exact p2.elim
      · exact p2.elim
    · exact p2.elim
  | _ => exact p2.elim
/-! k in d -/
def kInDict (neg : Bool) (v w : AV) (h : AH) : Option (AV × AH) := (dctA w h).bind fun kvs => (keyA v).map fun k => (.bl (if neg then !(valA kvs k).isSome else (valA kvs k).isSome), h)
@[simp] theorem dctA_fd {kvs : List (Key × AV)} {h : AH} : dctA (.fd kvs) h = some kvs := rfl
@[simp] theorem dctA_ref {j : Nat} {h : AH} : dctA (.ref j) h = match h[j]? with | some (some (.dk kvs)) => some kvs | _ => none := rfl
@[simp] theorem keyA_str {z : Str} : keyA (.str z) = some (.inr z) := rfl
@[simp] theorem keyA_int {z : Int} : keyA (.int z) = some (.inl z) := rfl
@[simp] theorem kInDict_ev {neg : Bool} {v w : AV} {h : AH} : kInDict neg v w h = (dctA w h).bind fun kvs => (keyA v).map fun k => (.bl (if neg then !(valA kvs k).isSome else (valA kvs k).isSome), h) := rfl
@[simp] theorem kDGet_ev {v w : AV} {h : AH} : kDGet v w h = (dctA v h).bind fun kvs => (keyA w).bind fun k => (valA kvs k).map fun x => (x, h) := rfl
def rInDict (neg : Bool) : R2 := fun y x H Q => ∃ a o, x = .ref a ∧ DGet H a y o ∧ Q (.bl (if neg then !o.isSome else o.isSome)) H
theorem op_inDict (hu : X.A.units + 1 < cLine) : OpR X (compareOp .In) (rInDict false) := fun pins s σ H y x v u Q I ry rx ⟨a, o, ex, g, q⟩ => by
  subst ex
  obtain rfl : u = Value.ref a := rx
  exact d_in hu I g ry fun s' I' => ⟨.bl o.isSome, H, I', rfl, q⟩
theorem op_notInDict (hu : X.A.units + 1 < cLine) : OpR X (compareOp .NotIn) (rInDict true) := fun pins s σ H y x v u Q I ry rx ⟨a, o, ex, g, q⟩ => by
  subst ex
  obtain rfl : u = Value.ref a := rx
  exact d_notIn hu I g ry fun s' I' => ⟨.bl (!o.isSome), H, I', rfl, q⟩
theorem ao_inDict (neg : Bool) : AO2 G (kInDict neg) (rInDict neg) := fun c v w u x Q r xv xw p => by
  unfold kInDict at p
  cases q1 : dctA w c.h with
  | none => rw [q1] at p; exact p.elim
  | some kvs =>
    rw [q1] at p
    cases q2 : keyA v with
    | none => rw [q2] at p; exact p.elim
    | some k =>
      rw [q2] at p
      obtain ⟨a, us, rfl, h1, y⟩ := dct_rv r xw q1
      obtain ⟨rfl, hk⟩ := key_rv xv q2
      refine ⟨a, valV us k, rfl, .inl ⟨us, k, h1, rfl, rfl⟩, ?_⟩
      rw [y.some k]
      exact post_fin r p .bl
/-! len(d) -/
def kLenD (vs : List AV) (h : AH) : Option (AV × AH) := match vs with
  | [w] => (dctA w h).map fun kvs => (.int kvs.length, h)
  | _ => none
@[simp] theorem kLenD_ev {w : AV} {h : AH} : kLenD [w] h = (dctA w h).map fun kvs => (.int kvs.length, h) := rfl
theorem call_lenDR : CallR X (.builtin "len") (fun xs H Q => ∃ a kvs, xs = [V.ref a] ∧ Rd H a (.dK kvs) ∧ Q (.int kvs.length) H) := fun pins s σ H xs us Q I r ⟨a, kvs, ex, h, q⟩ => by
  subst ex
  cases r with
  | cons rx rr =>
    cases rr
    rename_i u
    obtain rfl : u = Value.ref a := rx
    exact d_len I h fun t s' I' => ⟨.int kvs.length, H, I', ⟨t, rfl⟩, q⟩
theorem ao_lenD : AOL G kLenD (fun xs H Q => ∃ a kvs, xs = [V.ref a] ∧ Rd H a (.dK kvs) ∧ Q (.int kvs.length) H) := fun c v us Q r x p => by
  unfold kLenD at p
  split at p
  · rename_i w
    cases q1 : dctA w c.h with
    | none => rw [q1] at p; exact p.elim
    | some kvs =>
      rw [q1] at p
      cases x with
      | cons xw xr =>
        cases xr
        obtain ⟨a, us, rfl, h1, y⟩ := dct_rv r xw q1
        refine ⟨a, us, rfl, h1, ?_⟩
        rw [← y.length]
        exact post_fin r p .int
  · exact p.elim
/-! dict(d), dict of pairs -/
def pairA : AV → Option (Key × AV)
  | .tup [k, v] => (keyA k).map fun k => (k, v)
  | _ => none
def dctOf (v : AV) (h : AH) : Option (List (Key × AV)) := match dctA v h with
  | some kvs => some kvs
  | none => (lstOf v h).bind fun xs => if small xs.length then (xs.mapM pairA).map fun ps => mergeA [] ps else none
def kDictF (vs : List AV) (h : AH) : Option (AV × AH) := match vs with
  | [v] => (dctOf v h).map fun kvs => (.fd kvs, h)
  | _ => none
def kDictR (vs : List AV) (h : AH) : Option (AV × AH) := match vs with
  | [v] => (dctOf v h).map fun kvs => (.ref h.length, h ++ [some (.dk kvs)])
  | _ => none
@[simp] theorem kDictF_ev {v : AV} {h : AH} : kDictF [v] h = (dctOf v h).map fun kvs => (.fd kvs, h) := rfl
@[simp] theorem kDictR_ev {v : AV} {h : AH} : kDictR [v] h = (dctOf v h).map fun kvs => (.ref h.length, h ++ [some (.dk kvs)]) := rfl
abbrev rDictD : List V → Hp → VK → Prop := fun xs H Q => ∃ (a : Addr) (kvs : List (Key × V)), xs = [.ref a] ∧ Rd H a (.dK kvs) ∧ ∀ p, H p = none → Q (.ref p) (upd H p (.dK kvs))
abbrev rDictP (K : PySem.W.Frag) : List V → Hp → VK → Prop := fun xs H Q => ∃ (a : Addr) (ps : List Addr) (kvs : List (Key × V)), xs = [.ref a] ∧ SqL K H a (ps.map V.ref) ∧ Paired (fun p kv => SqT K H p [kV kv.1, kv.2]) ps kvs ∧ ∀ p, H p = none → Q (.ref p) (upd H p (.dK (mergeK [] kvs)))
theorem pairs_rv (hK : X.K = G.K) : ∀ {xs : List AV} {us : List V} {ps : List (Key × AV)}, RVs G c xs us → xs.mapM pairA = some ps → ∃ (as : List Addr) (kvs : List (Key × V)), us = as.map V.ref ∧ Paired (fun p kv => SqT X.K c.H p [kV kv.1, kv.2]) as kvs ∧ RVd G c ps kvs
  | _, _, ps, .nil, e => by
    simp at e
    subst e
    exact ⟨[], [], rfl, .nil, .nil⟩
  | _, _, ps, .cons (x := x) r t, e => by
    rw [List.mapM_cons] at e
    cases q : pairA x with
    | none => rw [q] at e; cases e
    | some kv =>
      rw [q] at e
      rename_i xs u us
      cases q2 : xs.mapM pairA with
      | none => rw [q2] at e; cases e
      | some ps2 =>
        rw [q2] at e
        cases e
        obtain ⟨as, kvs, e1, pr, y⟩ := pairs_rv hK t q2
        unfold pairA at q
        split at q
        · rename_i k v
          cases q3 : keyA k with
          | none => rw [q3] at q; cases q
          | some kk =>
            rw [q3] at q
            cases q
            obtain ⟨a, us2, rfl, h1, y2⟩ := rv_tup hK r
            cases y2 with
            | cons yk y3 =>
              cases y3 with
              | cons yv y4 =>
                cases y4
                obtain ⟨rfl, hk⟩ := key_rv yk q3
                rename_i uv
                exact ⟨a :: as, (kk, uv) :: kvs, by rw [e1]; rfl, .cons h1 pr, .cons hk yv y⟩
        · cases q
theorem lst_sq (hK : X.K = G.K) {v : AV} {u : V} {xs : List AV} (r : Rel G c) (x : RV G c v u) (e : lstOf v c.h = some xs) : ∃ a us, u = .ref a ∧ SqL X.K c.H a us ∧ RVs G c xs us := by
  unfold lstOf at e
  split at e
  · split at e
    · rename_i n ys q
      cases e
      cases x
      obtain ⟨us, q1, y⟩ := lst_at r q
      exact ⟨_, us, rfl, .inl (.inl q1), y⟩
    · cases e
  · cases e
    exact rv_list hK x
  · cases e
theorem dct_of_ok (hK : X.K = G.K) {v : AV} {u : V} {kvs : List (Key × AV)} (r : Rel G c) (x : RV G c v u) (e : dctOf v c.h = some kvs) : ∃ us, RVd G c kvs us ∧ ∀ Q : VK, (∀ p, c.H p = none → Q (.ref p) (upd c.H p (.dK us))) → rDictD [u] c.H Q ∨ rDictP X.K [u] c.H Q := by
  unfold dctOf at e
  cases q : dctA v c.h with
  | some ks =>
    rw [q] at e
    cases e
    obtain ⟨a, us, rfl, h1, y⟩ := dct_rv r x q
    exact ⟨us, y, fun Q h => .inl ⟨a, us, rfl, h1, h⟩⟩
  | none =>
    rw [q] at e
    cases q2 : lstOf v c.h with
    | none => rw [q2] at e; cases e
    | some xs =>
      rw [q2] at e
      simp only [Option.bind_some] at e
      by_cases hl : small xs.length = true
      · rw [if_pos hl] at e
        cases q3 : xs.mapM pairA with
        | none => rw [q3] at e; cases e
        | some ps =>
          rw [q3] at e
          cases e
          obtain ⟨a, us, rfl, h1, y⟩ := lst_sq hK r x q2
          obtain ⟨as, kvs2, rfl, pr, y2⟩ := pairs_rv hK y q3
          exact ⟨_, y2.merge .nil, fun Q h => .inr ⟨a, as, kvs2, rfl, h1, pr, h⟩⟩
      · rw [if_neg hl] at e; cases e
theorem call_dictA (hc : X.calm = true) : CallR X (.type "dict") (fun xs H Q => rDictD xs H Q ∨ rDictP X.K xs H Q) := CallR.or call_dictD (call_dictP hc)
theorem ao_dictF (hK : X.K = G.K) : AOL G kDictF (fun xs H Q => rDictD xs H Q ∨ rDictP X.K xs H Q) := fun c v us Q r x p => by
  unfold kDictF at p
  split at p
  · rename_i v
    cases q : dctOf v c.h with
    | none => rw [q] at p; exact p.elim
    | some kvs =>
      rw [q] at p
      cases x with
      | cons x xr =>
        cases xr
        obtain ⟨us, y, f⟩ := dct_of_ok hK r x q
        exact f Q fun a ha => post_newD r y ha p
  · exact p.elim
theorem ao_dictR (hK : X.K = G.K) : AOL G kDictR (fun xs H Q => rDictD xs H Q ∨ rDictP X.K xs H Q) := fun c v us Q r x p => by
  unfold kDictR at p
  split at p
  · rename_i v
    cases q : dctOf v c.h with
    | none => rw [q] at p; exact p.elim
    | some kvs =>
      rw [q] at p
      cases x with
      | cons x xr =>
        cases xr
        obtain ⟨us, y, f⟩ := dct_of_ok hK r x q
        exact f Q fun a ha => post_allocD (W := fun _ _ _ => False) r y ha p
  · exact p.elim
/-! list(d) -/
def keyV : Key → AV
  | .inl i => .int i
  | .inr z => .str z
theorem key_back {k : Key} (h : kOk k = true) : RV G c (keyV k) (kV k) := by
  cases k with
  | inl i => exact .int
  | inr z => exact .str h
theorem keys_rv : ∀ {kvs : List (Key × AV)} {us : List (Key × V)}, RVd G c kvs us → RVs G c (kvs.map fun kv => keyV kv.1) (us.map fun kv => kV kv.1)
  | _, _, .nil => .nil
  | _, _, .cons hk _ t => .cons (key_back hk) (keys_rv t)
abbrev rListD : List V → Hp → VK → Prop := fun xs H Q => ∃ (a : Addr) (kvs : List (Key × V)), xs = [.ref a] ∧ Rd H a (.dK kvs) ∧ ∀ p, H p = none → Q (.ref p) (upd H p (.lst (kvs.map fun kv => kV kv.1)))
def kListDF (vs : List AV) (h : AH) : Option (AV × AH) := match vs with
  | [v] => (dctA v h).bind fun kvs => if small kvs.length then some (.fl (kvs.map fun kv => keyV kv.1), h) else none
  | _ => none
def kListDR (vs : List AV) (h : AH) : Option (AV × AH) := match vs with
  | [v] => (dctA v h).bind fun kvs => if small kvs.length then some (.ref h.length, h ++ [some (.lst (kvs.map fun kv => keyV kv.1))]) else none
  | _ => none
@[simp] theorem kListDF_ev {v : AV} {h : AH} : kListDF [v] h = (dctA v h).bind fun kvs => if small kvs.length then some (.fl (kvs.map fun kv => keyV kv.1), h) else none := rfl
@[simp] theorem kListDR_ev {v : AV} {h : AH} : kListDR [v] h = (dctA v h).bind fun kvs => if small kvs.length then some (.ref h.length, h ++ [some (.lst (kvs.map fun kv => keyV kv.1))]) else none := rfl
theorem ao_listDF : AOL G kListDF rListD := fun c v us Q r x p => by
  unfold kListDF at p
  split at p
  · rename_i v
    cases q : dctA v c.h with
    | none => rw [q] at p; exact p.elim
    | some kvs =>
      rw [q] at p
      simp only [Option.bind_some] at p
      by_cases hl : small kvs.length = true
      · rw [if_pos hl] at p
        cases x with
        | cons x xr =>
          cases xr
          obtain ⟨a, us, rfl, h1, y⟩ := dct_rv r x q
          exact ⟨a, us, rfl, h1, post_lst r p (keys_rv y)⟩
      · rw [if_neg hl] at p; exact p.elim
  · exact p.elim
theorem ao_listDR : AOL G kListDR rListD := fun c v us Q r x p => by
  unfold kListDR at p
  split at p
  · rename_i v
    cases q : dctA v c.h with
    | none => rw [q] at p; exact p.elim
    | some kvs =>
      rw [q] at p
      simp only [Option.bind_some] at p
      by_cases hl : small kvs.length = true
      · rw [if_pos hl] at p
        cases x with
        | cons x xr =>
          cases xr
          obtain ⟨a, us, rfl, h1, y⟩ := dct_rv r x q
          exact ⟨a, us, rfl, h1, fun q hq => post_allocL (W := fun _ _ _ => False) r (keys_rv y) hq p⟩
      · rw [if_neg hl] at p; exact p.elim
  · exact p.elim
end
end PI
/-! PIso: sorted of texts. -/
namespace PI
open PySem PySem.Spec PyProof.Rows L2 ClX
def leS (a b : Str) : Bool := decide (a.cps.toList ≤ b.cps.toList)
theorem leS_eq (a b : Str) : (ltCps b.cps.toList a.cps.toList = false) ↔ leS a b = true := by
  unfold leS
  rw [ltCps_eq]
  simp
theorem leS_refl (a : Str) : leS a a = true := by simp [leS]
theorem leS_total (a b : Str) : (leS a b || leS b a) = true := by
  simp only [leS, Bool.or_eq_true, decide_eq_true_eq]
  exact List.le_total _ _
theorem leS_trans (a b c : Str) (h1 : leS a b = true) (h2 : leS b c = true) : leS a c = true := by
  simp only [leS, decide_eq_true_eq] at *
  exact List.le_trans h1 h2
theorem leS_anti (a b : Str) (h1 : leS a b = true) (h2 : leS b a = true) : a = b := by
  simp only [leS, decide_eq_true_eq] at *
  have e := List.le_antisymm h1 h2
  cases a; cases b
  simp at e
  rw [e]
def sortA (xs : List Str) : List Str := xs.mergeSort leS
theorem sortA_perm (xs : List Str) : (sortA xs).Perm xs := List.mergeSort_perm xs leS
theorem sortA_pw (xs : List Str) : (sortA xs).Pairwise (fun a b => leS a b = true) := List.pairwise_mergeSort leS_trans leS_total xs
theorem sortA_mem {xs : List Str} {x : Str} : x ∈ sortA xs ↔ x ∈ xs := (sortA_perm xs).mem_iff
theorem sortA_len (xs : List Str) : (sortA xs).length = xs.length := (sortA_perm xs).length_eq
theorem pw_of_rising : ∀ (p : Str) (l : List Str), risingS p l = true → (p :: l).Pairwise (fun a b => leS a b = true)
  | p, [], _ => by simp
  | p, x :: r, h => by
    unfold risingS at h
    rw [Bool.and_eq_true] at h
    have h1 : leS p x = true := (leS_eq p x).mp (by simpa using h.1)
    have ih := pw_of_rising x r h.2
    refine List.pairwise_cons.mpr ⟨fun y hy => ?_, ih⟩
    rcases List.mem_cons.mp hy with rfl | hy
    · exact h1
    · exact leS_trans _ _ _ h1 ((List.pairwise_cons.mp ih).1 y hy)
theorem pw_of_sortedS {l : List Str} (h : sortedS l = true) : l.Pairwise (fun a b => leS a b = true) := by
  cases l with
  | nil => exact .nil
  | cons x r => exact pw_of_rising x r h
theorem sorted_uniq {xs ys : List Str} (p : xs.Perm ys) (h1 : xs.Pairwise (fun a b => leS a b = true)) (h2 : ys.Pairwise (fun a b => leS a b = true)) : xs = ys :=
  List.Perm.eq_of_pairwise (fun a b _ _ h h' => leS_anti a b h h') h1 h2 p
theorem sortA_uniq {xs ys : List Str} (p : ys.Perm xs) (h : sortedS ys = true) : ys = sortA xs :=
  sorted_uniq (p.trans (sortA_perm xs).symm) (pw_of_sortedS h) (sortA_pw xs)
theorem sortA_of {xs ys : List Str} (p : xs.Perm ys) (h : ys.Pairwise (fun a b => leS a b = true)) : sortA xs = ys :=
  sorted_uniq ((sortA_perm xs).trans p) (sortA_pw xs) h
theorem sortA_congr {xs ys : List Str} (p : xs.Perm ys) : sortA xs = sortA ys := sortA_of (p.trans (sortA_perm ys).symm) (sortA_pw ys)
def strA : AV → Option Str
  | .str z => some z
  | _ => none
theorem strs_of : ∀ {xs : List AV} {ss : List Str}, xs.mapM strA = some ss → xs = ss.map .str
  | [], ss, e => by simp at e; subst e; rfl
  | x :: r, ss, e => by
    rw [List.mapM_cons] at e
    cases x with
    | str z =>
      cases q : r.mapM strA with
      | none => rw [q] at e; cases e
      | some ts => rw [q] at e; cases e; rw [List.map_cons, strs_of q]
    | _ => cases e
theorem strs_map (ss : List Str) : (ss.map AV.str).mapM strA = some ss := by
  induction ss with
  | nil => rfl
  | cons s r ih => rw [List.map_cons, List.mapM_cons, ih]; rfl
def seqD (v : AV) (h : AH) : Option (List AV) := match dctA v h with
  | some kvs => some (kvs.map fun kv => keyV kv.1)
  | none => lstOf v h
def sortO (v : AV) (h : AH) : Option (List AV) := (seqD v h).bind fun xs => (xs.mapM strA).bind fun ss => if ss.length < 64 then some ((sortA ss).map .str) else none
def kSortF (vs : List AV) (h : AH) : Option (AV × AH) := match vs with
  | [v] => (sortO v h).map fun xs => (.fl xs, h)
  | _ => none
def kSortR (vs : List AV) (h : AH) : Option (AV × AH) := match vs with
  | [v] => (sortO v h).map fun xs => (.ref h.length, h ++ [some (.lst xs)])
  | _ => none
@[simp] theorem kSortF_ev {v : AV} {h : AH} : kSortF [v] h = (sortO v h).map fun xs => (.fl xs, h) := rfl
@[simp] theorem kSortR_ev {v : AV} {h : AH} : kSortR [v] h = (sortO v h).map fun xs => (.ref h.length, h ++ [some (.lst xs)]) := rfl
theorem sortO_of {v : AV} {h : AH} {ss : List Str} (e : seqD v h = some (ss.map .str)) (hl : ss.length < 64) : sortO v h = some ((sortA ss).map .str) := by
  unfold sortO
  rw [e]
  simp only [Option.bind_some]
  rw [strs_map]
  simp [hl]
section
variable {G : Gx} {X : Cx} {c c' : Cfg}
abbrev rSortD : List V → Hp → VK → Prop := fun xs H Q => ∃ (a : Addr) (kvs : List (Key × V)) (ks : List Str), xs = [.ref a] ∧ Rd H a (.dK kvs) ∧ kvs.map (·.1) = ks.map Sum.inr ∧ ks.length < 64 ∧
    ∀ ys p, ys.Perm ks → sortedS ys = true → H p = none → Q (.ref p) (upd H p (.lst (ys.map V.str)))
theorem call_sortA (hc : X.calm = true) : CallR X (.builtin "sorted") (fun xs H Q => rSortedS X.K xs H Q ∨ rSortD xs H Q) := CallR.or cr_sortedS (call_sortedD hc)
theorem strl_rv : ∀ {ss : List Str} {us : List V}, RVs G c (ss.map AV.str) us → us = ss.map V.str ∧ ∀ s, s ∈ ss → PyData.strOk s = true
  | [], _, .nil => ⟨rfl, fun s h => by simp at h⟩
  | s :: r, _, .cons x t => by
    obtain ⟨e, h⟩ := strl_rv t
    cases x with
    | str k => exact ⟨by rw [e]; rfl, fun z hz => by rcases List.mem_cons.mp hz with rfl | hz; (exact k); exact h z hz⟩
theorem strl_vr {ss : List Str} (h : ∀ s, s ∈ ss → PyData.strOk s = true) : RVs G c (ss.map AV.str) (ss.map V.str) := by
  induction ss with
  | nil => exact .nil
  | cons s r ih => exact .cons (.str (h s (by simp))) (ih fun z hz => h z (by simp [hz]))
theorem keys_strs : ∀ {kvs : List (Key × AV)} {us : List (Key × V)} {ss : List Str}, RVd G c kvs us → kvs.map (fun kv => keyV kv.1) = ss.map .str → us.map (·.1) = ss.map Sum.inr
  | _, _, [], .nil, _ => rfl
  | _, _, s :: r, .nil, e => by simp at e
  | _, _, [], .cons _ _ _, e => by simp at e
  | _, _, s :: r, .cons (k := k) hk x t, e => by
    rw [List.map_cons, List.map_cons] at e
    injection e with e1 e2
    have ih := keys_strs t e2
    rw [List.map_cons, List.map_cons, ih]
    cases k with
    | inl i => cases e1
    | inr z => cases e1; rfl
theorem sort_cases (hK : X.K = G.K) {v : AV} {u : V} {xs : List AV} (r : Rel G c) (x : RV G c v u) (e : sortO v c.h = some xs) : ∃ us, RVs G c xs us ∧ ∀ Q : VK, (∀ l, c.H l = none → Q (.ref l) (upd c.H l (.lst us))) → rSortedS X.K [u] c.H Q ∨ rSortD [u] c.H Q := by
  unfold sortO at e
  cases q : seqD v c.h with
  | none => rw [q] at e; cases e
  | some ys =>
    rw [q] at e
    simp only [Option.bind_some] at e
    cases q2 : ys.mapM strA with
    | none => rw [q2] at e; cases e
    | some ss =>
      rw [q2] at e
      simp only [Option.bind_some] at e
      have ey := strs_of q2
      subst ey
      by_cases hl : ss.length < 64
      · rw [if_pos hl] at e
        cases e
        unfold seqD at q
        cases q3 : dctA v c.h with
        | some kvs =>
          rw [q3] at q
          simp only [Option.some.injEq] at q
          obtain ⟨a, us, rfl, h1, y⟩ := dct_rv r x q3
          have hs := strl_rv (G := G) (c := c) (q ▸ keys_rv y)
          refine ⟨_, strl_vr fun s h => hs.2 s (sortA_mem.mp h), fun Q f => .inr ⟨a, us, ss, rfl, h1, keys_strs y q, hl, fun zs p pm sr hp => ?_⟩⟩
          rw [sortA_uniq pm sr]
          exact f p hp
        | none =>
          rw [q3] at q
          simp only at q
          obtain ⟨a, us, rfl, h1, y⟩ := lst_sq hK r x q
          obtain ⟨eu, hs⟩ := strl_rv y
          subst eu
          refine ⟨_, strl_vr fun s h => hs s (sortA_mem.mp h), fun Q f => .inl ⟨a, ss, rfl, h1, hl, fun zs p pm sr hp => ?_⟩⟩
          rw [sortA_uniq pm sr]
          exact f p hp
      · rw [if_neg hl] at e; cases e
theorem ao_sortF (hK : X.K = G.K) : AOL G kSortF (fun xs H Q => rSortedS X.K xs H Q ∨ rSortD xs H Q) := fun c v us Q r x p => by
  unfold kSortF at p
  split at p
  · rename_i v
    cases q : sortO v c.h with
    | none => rw [q] at p; exact p.elim
    | some xs =>
      rw [q] at p
      cases x with
      | cons x xr =>
        cases xr
        obtain ⟨us, y, f⟩ := sort_cases hK r x q
        exact f Q (post_lst r p y)
  · exact p.elim
theorem ao_sortR (hK : X.K = G.K) : AOL G kSortR (fun xs H Q => rSortedS X.K xs H Q ∨ rSortD xs H Q) := fun c v us Q r x p => by
  unfold kSortR at p
  split at p
  · rename_i v
    cases q : sortO v c.h with
    | none => rw [q] at p; exact p.elim
    | some xs =>
      rw [q] at p
      cases x with
      | cons x xr =>
        cases xr
        obtain ⟨us, y, f⟩ := sort_cases hK r x q
        exact f Q fun l hl => post_allocL (W := fun _ _ _ => False) r y hl p
  · exact p.elim
end
end PI
/-! PIsm: methods of texts, str(..), int(..). -/
namespace PI
open PySem PySem.Spec PyProof.Rows L2 ClX
def midS (n : Nat) : Bool := decide (n ≤ 1000000)
theorem midS_le {n : Nat} (h : midS n = true) : n ≤ 1000000 := of_decide_eq_true h
@[simp] theorem midS_ev {n : Nat} : midS n = decide (n ≤ 1000000) := rfl
def kUpper (a : Str) (h : AH) : Option (AV × AH) := if midS a.length && PyData.strOk (Txt.upper a) then some (.str (Txt.upper a), h) else none
def kIsalpha (a : Str) (h : AH) : Option (AV × AH) := some (.bl (Txt.isalpha a), h)
def kIslower (a : Str) (h : AH) : Option (AV × AH) := some (.bl (Txt.islower a), h)
def kRemPre (a : Str) (w : AV) (h : AH) : Option (AV × AH) := match w with
  | .str b => if midS a.length && PyData.strOk (Txt.removeprefix a b) then some (.str (Txt.removeprefix a b), h) else none
  | _ => none
def kStrB (vs : List AV) (h : AH) : Option (AV × AH) := match vs with
  | [.int i] => if decide (i.natAbs.log2 < 1920) && PyData.strOk (toString i) then some (.str (toString i), h) else none
  | [.str z] => some (.str z, h)
  | _ => none
def kIntS (vs : List AV) (h : AH) : Option (AV × AH) := match vs with
  | [.str z] => if z.length ≤ 640 then (PySem.intText? z).map fun n => (.int n, h) else none
  | [.int i] => some (.int i, h)
  | _ => none
@[simp] theorem kUpper_ev {a : Str} {h : AH} : kUpper a h = if midS a.length && PyData.strOk (Txt.upper a) then some (.str (Txt.upper a), h) else none := rfl
@[simp] theorem kIsalpha_ev {a : Str} {h : AH} : kIsalpha a h = some (.bl (Txt.isalpha a), h) := rfl
@[simp] theorem kIslower_ev {a : Str} {h : AH} : kIslower a h = some (.bl (Txt.islower a), h) := rfl
@[simp] theorem kRemPre_ev {a b : Str} {h : AH} : kRemPre a (.str b) h = if midS a.length && PyData.strOk (Txt.removeprefix a b) then some (.str (Txt.removeprefix a b), h) else none := rfl
@[simp] theorem kStrB_int {i : Int} {h : AH} : kStrB [.int i] h = if decide (i.natAbs.log2 < 1920) && PyData.strOk (toString i) then some (.str (toString i), h) else none := rfl
@[simp] theorem kStrB_str {z : Str} {h : AH} : kStrB [.str z] h = some (.str z, h) := rfl
@[simp] theorem kIntS_str {z : Str} {h : AH} : kIntS [.str z] h = if z.length ≤ 640 then (PySem.intText? z).map fun n => (.int n, h) else none := rfl
@[simp] theorem kIntS_int {i : Int} {h : AH} : kIntS [.int i] h = some (.int i, h) := rfl
section
variable {G : Gx} {B : Bx} {zs : Addr → Prop} {W : WX} {X : Cx} {c c' : Cfg} {L : List Addr} {τ : AS} {σ : SL} {pos pos' p apos cpos tpos : Pos} {e o a b f : Expr} {es : List Expr} {m n mo me mi mx : ME} {ma mk : MA} {mt : MT} {x s : Str} {i : Nat} {vs : List Nat}
theorem ie_upper (ho : IE G B W X o mo) (hbase : attributeBase o "upper" X.env (eval o X.env) = eval o X.env := by rfl) (hline : (apos.endLine == pos.line) = true := by rfl) : IE G B W X (.Call (.Attribute o "upper" apos) [] [] pos) (mM0 kUpper mo) :=
  PE.imp (pe_upper ho hbase hline) fun σ H Q t => m0_ok (fun c a Q r ka p => by
    unfold kUpper at p
    by_cases h : (midS a.length && PyData.strOk (Txt.upper a)) = true
    · rw [if_pos h] at p
      rw [Bool.and_eq_true] at h
      exact ⟨a, rfl, rfl, Nat.le_trans (midS_le h.1) (by decide), post_fin r p (.str h.2)⟩
    · rw [if_neg h] at p; exact p.elim) t
theorem ie_isalpha (ho : IE G B W X o mo) (hbase : attributeBase o "isalpha" X.env (eval o X.env) = eval o X.env := by rfl) (hline : (apos.endLine == pos.line) = true := by rfl) : IE G B W X (.Call (.Attribute o "isalpha" apos) [] [] pos) (mM0 kIsalpha mo) :=
  PE.imp (pe_m0 PySem.F.slot_str_isalpha PySem.F.type_str_isalpha mt_isalpha ho hbase hline) fun σ H Q t => m0_ok (fun c a Q r ka p => ⟨a, rfl, rfl, trivial, post_fin r p .bl⟩) t
theorem ie_islower (ho : IE G B W X o mo) (hbase : attributeBase o "islower" X.env (eval o X.env) = eval o X.env := by rfl) (hline : (apos.endLine == pos.line) = true := by rfl) : IE G B W X (.Call (.Attribute o "islower" apos) [] [] pos) (mM0 kIslower mo) :=
  PE.imp (pe_m0 PySem.F.slot_str_islower PySem.F.type_str_islower mt_islower ho hbase hline) fun σ H Q t => m0_ok (fun c a Q r ka p => ⟨a, rfl, rfl, trivial, post_fin r p .bl⟩) t
theorem ie_rempre (ho : IE G B W X o mo) (he : IE G B W X e me) (hs : starEach [e] X.env = [(false, eval e X.env)] := by rfl) (hbase : attributeBase o "removeprefix" X.env (eval o X.env) = eval o X.env := by rfl) (hline : (apos.endLine == pos.line) = true := by rfl) :
    IE G B W X (.Call (.Attribute o "removeprefix" apos) [e] [] pos) (mM1 kRemPre mo me) := PE.imp (pe_m1 PySem.F.slot_str_removeprefix PySem.F.type_str_removeprefix mt_removeprefix ho he hs hbase hline) fun σ H Q t => m1_ok (fun c a w u Q r ka x p => by
  cases x with
  | @str b kb =>
    unfold kRemPre at p
    simp only at p
    by_cases h : (midS a.length && PyData.strOk (Txt.removeprefix a b)) = true
    · rw [if_pos h] at p
      rw [Bool.and_eq_true] at h
      exact ⟨a, b, rfl, rfl, Nat.le_trans (midS_le h.1) (by rw [sizeLine_eq]; decide), post_fin r p (.str h.2)⟩
    · rw [if_neg h] at p; exact p.elim
  | _ => exact p.elim) t
theorem call_strA : CallR X (.type "str") (fun xs H Q => (∃ i, xs = [.int i] ∧ i.natAbs.log2 < 1920 ∧ Q (.str (toString i)) H) ∨ ∃ a, xs = [.str a] ∧ Q (.str a) H) := CallR.or call_str_int SkE.call_str_str
theorem ao_strB : AOL G kStrB (fun xs H Q => (∃ i, xs = [.int i] ∧ i.natAbs.log2 < 1920 ∧ Q (.str (toString i)) H) ∨ ∃ a, xs = [.str a] ∧ Q (.str a) H) := fun c v us Q r x p => by
  unfold kStrB at p
  split at p
  · rename_i i
    by_cases h : (decide (i.natAbs.log2 < 1920) && PyData.strOk (toString i)) = true
    · rw [if_pos h] at p
      rw [Bool.and_eq_true] at h
      cases x with
      | cons x xr =>
        cases xr
        cases x
        exact .inl ⟨i, rfl, of_decide_eq_true h.1, post_fin r p (.str h.2)⟩
    · rw [if_neg h] at p; exact p.elim
  · cases x with
    | cons x xr =>
      cases xr
      cases x with
      | str k => exact .inr ⟨_, rfl, post_fin r p (.str k)⟩
  · exact p.elim
abbrev rIntS : List V → Hp → VK → Prop := fun xs H Q => ∃ a n, xs = [.str a] ∧ PySem.intText? a = some n ∧ a.length ≤ 640 ∧ Q (.int n) H
abbrev rInt1 : List V → Hp → VK → Prop := fun xs H Q => ∃ i, xs = [.int i] ∧ Q (.int i) H
theorem call_intI : CallR X (.type "int") rInt1 := fun pins s σ H xs us Q I r ⟨i, e, q⟩ => call_int1 pins s σ H xs us Q I r (by subst e; exact .inl ⟨i, rfl, q⟩)
theorem call_intA : CallR X (.type "int") (fun xs H Q => rIntS xs H Q ∨ rInt1 xs H Q) := CallR.or call_int_str call_intI
theorem ao_intS : AOL G kIntS (fun xs H Q => rIntS xs H Q ∨ rInt1 xs H Q) := fun c v us Q r x p => by
  unfold kIntS at p
  split at p
  · rename_i z
    by_cases h : z.length ≤ 640
    · rw [if_pos h] at p
      cases q : PySem.intText? z with
      | none => rw [q] at p; exact p.elim
      | some k =>
        rw [q] at p
        cases x with
        | cons x xr =>
          cases xr
          cases x
          exact .inl ⟨z, k, rfl, q, h, post_fin r p .int⟩
    · rw [if_neg h] at p; exact p.elim
  · cases x with
    | cons x xr =>
      cases xr
      cases x
      exact .inr ⟨_, rfl, post_fin r p .int⟩
  · exact p.elim
end
end PI
/-! PItv: how a plain law is run: ends of a run as predicates; what changes on the heap. -/
namespace PI
open PySem PySem.Spec PyProof.Rows L2
/-- a run goes on -/
def Goon (Q : AS → AH → Prop) (r : SRes) : Prop := ∃ τ h, r = .nx τ h ∧ Q τ h
/-- a run returns -/
def Rets (Q : AV → AH → Prop) (r : SRes) : Prop := ∃ v h, r = .rt v h ∧ Q v h
def Oks {α : Type} (Q : α → AH → Prop) (r : Res α) : Prop := ∃ v h, r = .ok v h ∧ Q v h
section
variable {Q : AS → AH → Prop} {R : AV → AH → Prop} {τ : AS} {h : AH} {v : AV}
@[simp] theorem goon_nx : Goon Q (.nx τ h) ↔ Q τ h := ⟨fun ⟨_, _, e, q⟩ => by cases e; exact q, fun q => ⟨_, _, rfl, q⟩⟩
@[simp] theorem rets_rt : Rets R (.rt v h) ↔ R v h := ⟨fun ⟨_, _, e, q⟩ => by cases e; exact q, fun q => ⟨_, _, rfl, q⟩⟩
@[simp] theorem oks_ok {α : Type} {P : α → AH → Prop} {a : α} : Oks P (.ok a h) ↔ P a h := ⟨fun ⟨_, _, e, q⟩ => by cases e; exact q, fun q => ⟨_, _, rfl, q⟩⟩
theorem Goon.imp {Q' : AS → AH → Prop} {r : SRes} (g : Goon Q r) (f : ∀ τ h, Q τ h → Q' τ h) : Goon Q' r := let ⟨_, _, e, q⟩ := g; ⟨_, _, e, f _ _ q⟩
end
/-- a loop by an invariant -/
theorem goon_for {g : MG} {b : MS} (I : AS → AH → Prop) : ∀ (vs : List AV), (∀ v, v ∈ vs → ∀ τ h, I τ h → ∃ τ1, g v τ = some τ1 ∧ Goon I (b τ1 h)) → ∀ τ h, I τ h → Goon I (forL g b vs τ h)
  | [], _, τ, h, i => ⟨τ, h, rfl, i⟩
  | v :: r, H, τ, h, i => by
    obtain ⟨τ1, e1, τ2, h2, e2, i2⟩ := H v (by simp) τ h i
    rw [forL_cons e1 e2]
    exact goon_for I r (fun w hw => H w (by simp [hw])) τ2 h2 i2
/-- a loop by an invariant that knows what is left -/
theorem goon_forL {g : MG} {b : MS} (I : List AV → AS → AH → Prop) : ∀ (vs : List AV), (∀ v r τ h, I (v :: r) τ h → ∃ τ1, g v τ = some τ1 ∧ Goon (I r) (b τ1 h)) → ∀ τ h, I vs τ h → Goon (I []) (forL g b vs τ h)
  | [], _, τ, h, i => ⟨τ, h, rfl, i⟩
  | v :: r, H, τ, h, i => by
    obtain ⟨τ1, e1, τ2, h2, e2, i2⟩ := H v r τ h i
    rw [forL_cons e1 e2]
    exact goon_forL I r H τ2 h2 i2
/-- a loop over a list that the loop lets stand -/
theorem goon_forDi {g : MG} {b : MS} {v : AV} {xs : List AV} (I : AS → AH → Prop) (hI : ∀ τ h, I τ h → lstOf v h = some xs) (H : ∀ x, x ∈ xs → ∀ τ h, I τ h → ∃ τ1, g x τ = some τ1 ∧ Goon I (b τ1 h)) : ∀ (k i n : Nat), i + k = xs.length → k < n → ∀ τ h, I τ h → Goon I (forD g b (srcL v) n i τ h)
  | 0, i, n + 1, hk, hn, τ, h, q => by
    have e : srcL v i h = some none := by
      unfold srcL
      rw [hI τ h q]
      simp [List.getElem?_eq_none_iff.mpr (show xs.length ≤ i by omega)]
    unfold forD
    rw [e]
    exact ⟨τ, h, rfl, q⟩
  | k + 1, i, n + 1, hk, hn, τ, h, q => by
    have hi : i < xs.length := by omega
    have e : srcL v i h = some (some xs[i]) := by
      unfold srcL
      rw [hI τ h q]
      simp [hi]
    obtain ⟨τ1, e1, τ2, h2, e2, q2⟩ := H xs[i] (List.getElem_mem hi) τ h q
    unfold forD
    rw [e]
    simp only [e1, e2]
    exact goon_forDi I hI H k (i + 1) n (by omega) (by omega) τ2 h2 q2
theorem goon_forD {g : MG} {b : MS} {v : AV} {xs : List AV} {n : Nat} (I : AS → AH → Prop) (hn : xs.length < n) (hI : ∀ τ h, I τ h → lstOf v h = some xs) (H : ∀ x, x ∈ xs → ∀ τ h, I τ h → ∃ τ1, g x τ = some τ1 ∧ Goon I (b τ1 h)) (τ : AS) (h : AH) (q : I τ h) : Goon I (forD g b (srcL v) n 0 τ h) :=
  goon_forDi I hI H xs.length 0 n (by omega) hn τ h q
/-- behind a run that goes on -/
theorem Goon.thn {I : AS → AH → Prop} {P : SRes → Prop} {r : SRes} {n : MS} (g : Goon I r) (f : ∀ τ h, I τ h → P (n τ h)) : P (r.thn n) := by
  obtain ⟨τ, h, e, q⟩ := g
  rw [e]
  exact f τ h q
theorem inA_strs (x : Str) : ∀ ws : List Str, inA (.str x) (ws.map .str) = decide (x ∈ ws)
  | [] => rfl
  | w :: r => by
    have ih := inA_strs x r
    unfold inA at ih ⊢
    rw [List.map_cons, List.any_cons, ih]
    by_cases e : w = x
    · subst e; simp [eqA]
    · have n1 : (w == x) = false := by simpa using e
      have : x ≠ w := fun z => e z.symm
      simp [eqA, n1, this]
theorem inB_strs {neg : Bool} {x : Str} {ws : List Str} {h : AH} : kInB neg (.str x) (.fl (ws.map .str)) h = some (.bl (if neg then !decide (x ∈ ws) else decide (x ∈ ws)), h) := by
  have fl : (ws.map AV.str).all flatA = true := List.all_eq_true.mpr fun v hv => by obtain ⟨w, _, rfl⟩ := List.mem_map.mp hv; rfl
  unfold kInB
  simp only [seqOf, fl, inA_strs]
  rfl
/-- a comprehension whose items have effects -/
theorem lcL_eff {g : MG} {me : ME} {τ : AS} (R : AV → AV → Prop) (I : AH → Prop) : ∀ (vs : List AV), (∀ v, v ∈ vs → ∀ h, I h → ∃ τ2 y h2, g v τ = some τ2 ∧ me τ2 h = .ok y h2 ∧ R v y ∧ I h2) → ∀ (acc : List AV) (h : AH), I h → acc.length + vs.length ≤ 16777216 →
    ∃ ys h', lcL g mYes me τ vs acc h = .ok (.fl (acc ++ ys)) h' ∧ Al2 R vs ys ∧ I h'
  | [], H, acc, h, i, hl => ⟨[], h, by simp [lcL], .nil, i⟩
  | v :: r, H, acc, h, i, hl => by
    obtain ⟨τ2, y, h2, e1, e2, hr, i2⟩ := H v (by simp) h i
    obtain ⟨ys, h', e3, al, i3⟩ := lcL_eff R I r (fun w hw => H w (by simp [hw])) (acc ++ [y]) h2 i2 (by simp at hl ⊢; omega)
    refine ⟨y :: ys, h', ?_, .cons hr al, i3⟩
    rw [lcL, e1]
    have hs : small (acc.length + 1) = true := decide_eq_true (by simp at hl; omega)
    simp only [mYes, noX, Res.bind, if_true, e2, hs]
    rw [e3]
    simp
theorem al2_strs {R : AV → AV → Prop} {P : Str → Str → Prop} (hR : ∀ m y, R (.str m) y → ∃ x, y = .str x ∧ P m x) : ∀ {ms : List Str} {ys : List AV}, Al2 R (ms.map .str) ys → ∃ xs : List Str, ys = xs.map .str ∧ Al2 P ms xs
  | [], _, .nil => ⟨[], rfl, .nil⟩
  | m :: ms, _, .cons r t => by
    obtain ⟨x, e, p⟩ := hR m _ r
    obtain ⟨xs, e2, t2⟩ := al2_strs hR t
    exact ⟨x :: xs, by rw [e, e2]; rfl, .cons p t2⟩
theorem Al2.ex {α β : Type} {R : α → β → Prop} {as : List α} {bs : List β} (h : Al2 R as bs) : ∀ b, b ∈ bs → ∃ a, a ∈ as ∧ R a b := by
  induction h with
  | nil => intro b hb; simp at hb
  | @cons a b as bs r t ih =>
    intro c hc
    rcases List.mem_cons.mp hc with rfl | hc
    · exact ⟨a, by simp, r⟩
    · obtain ⟨x, hx, q⟩ := ih c hc
      exact ⟨x, by simp [hx], q⟩
theorem Al2.nodup {α β : Type} {R : α → β → Prop} {as : List α} {bs : List β} (h : Al2 R as bs) (hi : ∀ a a' b, R a b → R a' b → a = a') (hn : as.Nodup) : bs.Nodup := by
  induction h with
  | nil => exact List.nodup_nil
  | @cons a b as bs r t ih =>
    obtain ⟨n1, n2⟩ := List.nodup_cons.mp hn
    refine List.nodup_cons.mpr ⟨fun c => ?_, ih n2⟩
    obtain ⟨x, hx, q⟩ := t.ex b c
    exact n1 (hi a x b r q ▸ hx)
/-- heap that is kept, but for the place n, and may grow -/
structure Fr (n : Nat) (h h' : AH) : Prop where
  len : h.length ≤ h'.length
  keep : ∀ j, j < h.length → j ≠ n → h'[j]? = h[j]?
theorem Fr.refl {n : Nat} {h : AH} : Fr n h h := ⟨Nat.le_refl _, fun _ _ _ => rfl⟩
theorem Fr.trans {n : Nat} {h h1 h2 : AH} (a : Fr n h h1) (b : Fr n h1 h2) : Fr n h h2 := ⟨Nat.le_trans a.len b.len, fun j hj hn => (b.keep j (Nat.lt_of_lt_of_le hj a.len) hn).trans (a.keep j hj hn)⟩
theorem Fr.at {n m : Nat} {h h' : AH} {o : AO} (f : Fr n h h') (e : h[m]? = some (some o)) (hm : m ≠ n) : h'[m]? = some (some o) :=
  (f.keep m (List.getElem?_eq_some_iff.mp e).1 hm).trans e
theorem Fr.set {n : Nat} {h : AH} {o : Option AO} : Fr n h (h.set n o) := ⟨by simp, fun j _ hn => by rw [List.getElem?_set_ne (Ne.symm hn)]⟩
theorem Fr.app {n : Nat} {h : AH} {os : AH} : Fr n h (h ++ os) := ⟨by simp, fun j hj _ => List.getElem?_append_left hj⟩
/-- heap that is kept and may grow -/
structure Kp (h h' : AH) : Prop where
  len : h.length ≤ h'.length
  keep : ∀ j, j < h.length → h'[j]? = h[j]?
theorem Kp.refl {h : AH} : Kp h h := ⟨Nat.le_refl _, fun _ _ => rfl⟩
theorem Kp.trans {h h1 h2 : AH} (a : Kp h h1) (b : Kp h1 h2) : Kp h h2 := ⟨Nat.le_trans a.len b.len, fun j hj => (b.keep j (Nat.lt_of_lt_of_le hj a.len)).trans (a.keep j hj)⟩
theorem Kp.at {m : Nat} {h h' : AH} {o : AO} (f : Kp h h') (e : h[m]? = some (some o)) : h'[m]? = some (some o) :=
  (f.keep m (List.getElem?_eq_some_iff.mp e).1).trans e
theorem Kp.app {h os : AH} : Kp h (h ++ os) := ⟨by simp, fun j hj => List.getElem?_append_left hj⟩
theorem Kp.fr {n : Nat} {h h' : AH} (f : Kp h h') : Fr n h h' := ⟨f.len, fun j hj _ => f.keep j hj⟩
/-- what is set behind the old heap -/
theorem Kp.setN {h h' : AH} {m : Nat} {o : Option AO} (f : Kp h h') (hm : h.length ≤ m) : Kp h (h'.set m o) := ⟨by simpa using f.len, fun j hj => by rw [List.getElem?_set_ne (by omega)]; exact f.keep j hj⟩
theorem at_app {h : AH} {o : Option AO} : (h ++ [o])[h.length]? = some o := by simp
theorem at_lt {h : AH} {m : Nat} {o : AO} (e : h[m]? = some (some o)) : m < h.length := (List.getElem?_eq_some_iff.mp e).1
theorem at_set {h : AH} {m : Nat} {o : AO} {o' : Option AO} (e : h[m]? = some (some o)) : (h.set m o')[m]? = some o' := by rw [List.getElem?_set_self (at_lt e)]
end PI
/-! PItx: texts: cutting, joining, what machines do with them. -/
namespace PI
open PySem PySem.Spec PyProof.Rows L2 ClX
/-- a text of a law -/
def txB (x : Str) : Bool := PyData.strOk x && decide (x.length ≤ 100000)
theorem txB_le {x : Str} (e : txB x = true) : x.length ≤ 100000 := by
  unfold txB at e
  rw [Bool.and_eq_true] at e
  exact of_decide_eq_true e.2
theorem txB_ok {x : Str} (e : txB x = true) : PyData.strOk x = true := by
  unfold txB at e
  rw [Bool.and_eq_true] at e
  exact e.1
theorem txB_mk {x : Str} (h : PyData.strOk x = true) (hl : x.length ≤ 100000) : txB x = true := by
  unfold txB
  rw [h, decide_eq_true hl]
  rfl
theorem strS_of {x : Str} (e : txB x = true) : strS x.length = true := by
  have := txB_le e
  unfold strS
  exact decide_eq_true (by omega)
theorem len_tl (x : Str) : x.cps.toList.length = x.length := by simp [Str.length]
theorem mem_ok {x : Str} (e : PyData.strOk x = true) : ∀ k, k ∈ TL.tl x → k < 0x110000 := by
  unfold PyData.strOk at e
  rw [Array.all_eq_true'] at e
  intro k hk
  simpa using e k (by simpa using hk)
theorem ok_mem {x : Str} (e : ∀ k, k ∈ TL.tl x → k < 0x110000) : PyData.strOk x = true := by
  unfold PyData.strOk
  rw [Array.all_eq_true']
  intro k hk
  simpa using e k (by simpa using hk)
theorem len_app (x y : Str) : (x ++ y).length = x.length + y.length := by
  rw [TL.len_tl, TL.len_tl x, TL.len_tl y, TL.tl_append, List.length_append]
theorem txB_app {x y : Str} (h1 : txB x = true) (h2 : txB y = true) (hl : x.length + y.length ≤ 100000) : txB (x ++ y) = true :=
  txB_mk (strOk_app (txB_ok h1) (txB_ok h2)) (by rw [len_app]; exact hl)
theorem txB_sub {x y : Str} (h : txB x = true) (hs : ∀ k, k ∈ TL.tl y → k ∈ TL.tl x) (hl : y.length ≤ x.length) : txB y = true :=
  txB_mk (ok_mem fun k hk => mem_ok (txB_ok h) k (hs k hk)) (Nat.le_trans hl (txB_le h))
/-- a separator of one sign -/
structure Sep1 (y : Str) (s : Nat) : Prop where
  tl : TL.tl y = [s]
  lo : y.cps.all (· < 256) = true
section
variable {x y : Str} {s : Nat}
theorem Sep1.ne (e : Sep1 y s) : (y.length != 0) = true := by rw [TL.len_tl, e.tl]; rfl
theorem Sep1.len (e : Sep1 y s) : y.length = 1 := by rw [TL.len_tl, e.tl]; rfl
theorem cut_no (e : Sep1 y s) (h : s ∉ TL.tl x) : Txt.partition x y = (x, Str.empty, Str.empty) ∧ Txt.split x y = [x] := by
  refine ⟨TL.partition_none (s := s) (S := []) e.tl h, ?_⟩
  have q := TL.split_spl x y (by rw [e.tl]; simp) (TL.kind_ok e.lo)
  rw [e.tl, TL.spl_last1 h, List.nil_append] at q
  exact TL.map_tl_inj (m := [x]) q
theorem cut_at (e : Sep1 y s) (h : s ∈ TL.tl x) : ∃ a b : Str, x = a ++ y ++ b ∧ s ∉ TL.tl a ∧ Txt.partition x y = (a, y, b) ∧ Txt.split x y = a :: Txt.split b y := by
  obtain ⟨p, q, ex, hp⟩ := List.eq_append_cons_of_mem h
  have ep : TL.tl ⟨p.toArray⟩ = p := TL.tl_mk p
  have eq' : TL.tl ⟨q.toArray⟩ = q := TL.tl_mk q
  have ex2 : x = (⟨p.toArray⟩ : Str) ++ y ++ ⟨q.toArray⟩ := TL.ext_tl (by rw [TL.tl_append, TL.tl_append, ep, eq', e.tl, ex]; simp)
  refine ⟨⟨p.toArray⟩, ⟨q.toArray⟩, ex2, by rw [ep]; exact hp, ?_, ?_⟩
  · rw [ex2]
    exact TL.partition_app (s := s) (S := []) e.tl (by rw [ep]; exact hp)
  · apply TL.map_tl_inj
    rw [List.map_cons, TL.split_spl x y (by rw [e.tl]; simp) (TL.kind_ok e.lo), TL.split_spl _ y (by rw [e.tl]; simp) (TL.kind_ok e.lo), e.tl, ep, eq', ex]
    have q2 := TL.spl_part1 (s := s) (S := []) (p := p) (rest := q) (acc := []) hp
    simpa using q2
theorem split_app (e : Sep1 y s) {a b : Str} (h : s ∉ TL.tl a) : Txt.split (a ++ y ++ b) y = a :: Txt.split b y := by
  apply TL.map_tl_inj
  rw [List.map_cons, TL.split_spl _ y (by rw [e.tl]; simp) (TL.kind_ok e.lo), TL.split_spl b y (by rw [e.tl]; simp) (TL.kind_ok e.lo), e.tl, TL.tl_append, TL.tl_append, e.tl]
  have q2 := TL.spl_part1 (s := s) (S := []) (p := TL.tl a) (rest := TL.tl b) (acc := []) h
  simpa using q2
theorem split_ne (x y : Str) (e : Sep1 y s) : Txt.split x y ≠ [] := by
  by_cases h : s ∈ TL.tl x
  · obtain ⟨a, b, _, _, _, q⟩ := cut_at e h; rw [q]; simp
  · rw [(cut_no e h).2]; simp
/-- the parts of a text between separators -/
theorem split_ind (e : Sep1 y s) {P : Str → List Str → Prop} (h1 : ∀ x, s ∉ TL.tl x → P x [x]) (h2 : ∀ a b ps, s ∉ TL.tl a → P b ps → P (a ++ y ++ b) (a :: ps)) (x : Str) : P x (Txt.split x y) := by
  obtain ⟨n, hn⟩ : ∃ n, n = x.length := ⟨_, rfl⟩
  induction n using Nat.strongRecOn generalizing x with
  | _ n ih =>
    by_cases h : s ∈ TL.tl x
    · obtain ⟨a, b, ex, ha, _, q⟩ := cut_at e h
      rw [q]
      have hl : b.length < n := by rw [hn, ex, len_app, len_app, e.len]; omega
      have := h2 a b _ ha (ih b.length hl b rfl)
      rw [← ex] at this
      exact this
    · rw [(cut_no e h).2]; exact h1 x h
theorem split_free (e : Sep1 y s) (x : Str) : ∀ p, p ∈ Txt.split x y → s ∉ TL.tl p :=
  split_ind e (P := fun _ ps => ∀ p, p ∈ ps → s ∉ TL.tl p) (fun x h p hp => by rw [List.mem_singleton] at hp; rw [hp]; exact h) (fun a b ps ha ih p hp => by rcases List.mem_cons.mp hp with rfl | hp; (exact ha); exact ih p hp) x
theorem split_mem (e : Sep1 y s) (x : Str) : ∀ p, p ∈ Txt.split x y → (∀ k, k ∈ TL.tl p → k ∈ TL.tl x) ∧ p.length ≤ x.length :=
  split_ind e (P := fun x ps => ∀ p, p ∈ ps → (∀ k, k ∈ TL.tl p → k ∈ TL.tl x) ∧ p.length ≤ x.length) (fun x h p hp => by rw [List.mem_singleton] at hp; subst hp; exact ⟨fun _ h => h, Nat.le_refl _⟩) (fun a b ps ha ih p hp => by
    rcases List.mem_cons.mp hp with rfl | hp
    · exact ⟨fun k hk => by rw [TL.tl_append, TL.tl_append]; simp [hk], by rw [len_app, len_app]; omega⟩
    · exact ⟨fun k hk => by rw [TL.tl_append, TL.tl_append]; simp [(ih p hp).1 k hk], by rw [len_app]; have := (ih p hp).2; omega⟩) x
theorem split_count (e : Sep1 y s) (x : Str) : (Txt.split x y).length ≤ x.length + 1 :=
  split_ind e (P := fun x ps => ps.length ≤ x.length + 1) (fun x h => by simp) (fun a b ps ha ih => by rw [len_app, len_app, e.len]; simp; omega) x
theorem txB_split (e : Sep1 y s) (h : txB x = true) : ∀ p, p ∈ Txt.split x y → txB p = true := fun p hp => txB_sub h (split_mem e x p hp).1 (split_mem e x p hp).2
theorem txB_part (e : Sep1 y s) (hy : txB y = true) (h : txB x = true) : txB (Txt.partition x y).1 = true ∧ txB (Txt.partition x y).2.1 = true ∧ txB (Txt.partition x y).2.2 = true := by
  by_cases q : s ∈ TL.tl x
  · obtain ⟨a, b, ex, ha, ep, _⟩ := cut_at e q
    rw [ep]
    subst ex
    simp only
    exact ⟨txB_sub h (fun k hk => by rw [TL.tl_append, TL.tl_append]; simp [hk]) (by rw [len_app, len_app]; omega), hy, txB_sub h (fun k hk => by rw [TL.tl_append, TL.tl_append]; simp [hk]) (by rw [len_app, len_app]; omega)⟩
  · rw [(cut_no e q).1]
    exact ⟨h, (by decide +kernel : txB Str.empty = true), (by decide +kernel : txB Str.empty = true)⟩
theorem kSplit_ok (e : Sep1 y s) (h : txB x = true) (hh : AH) : kSplit x (.str y) hh = some (.fl ((Txt.split x y).map .str), hh) := by
  have h1 : txtOk x.length = true := decide_eq_true (by have := txB_le h; omega)
  have h2 : (Txt.split x y).all PyData.strOk = true := List.all_eq_true.mpr fun p hp => txB_ok (txB_split e h p hp)
  unfold kSplit
  simp only [e.ne, h1, h2, Bool.and_self, if_true]
theorem kPart_ok (e : Sep1 y s) (hy : txB y = true) (h : txB x = true) (hh : AH) : kPart x (.str y) hh = some (.tup [.str (Txt.partition x y).1, .str (Txt.partition x y).2.1, .str (Txt.partition x y).2.2], hh) := by
  have h1 : txtOk x.length = true := decide_eq_true (by have := txB_le h; omega)
  obtain ⟨a, b, c⟩ := txB_part e hy h
  unfold kPart
  simp only [e.ne, h1, txB_ok a, txB_ok b, txB_ok c, Bool.and_self, if_true]
/-- joining -/
def sumL (ws : List Str) : Nat := (ws.map (·.length)).sum
@[simp] theorem sumL_nil : sumL [] = 0 := rfl
@[simp] theorem sumL_cons {w : Str} {ws : List Str} : sumL (w :: ws) = w.length + sumL ws := by simp [sumL]
theorem sumL_app (a b : List Str) : sumL (a ++ b) = sumL a + sumL b := by simp [sumL]
theorem sumL_le {ws : List Str} {k : Nat} (h : ∀ w, w ∈ ws → w.length ≤ k) : sumL ws ≤ ws.length * k := by
  induction ws with
  | nil => simp
  | cons w r ih =>
    have := ih fun v hv => h v (by simp [hv])
    have := h w (by simp)
    rw [sumL_cons, List.length_cons, Nat.succ_mul]
    omega
theorem join_cons2 (y a b : Str) (r : List Str) : Txt.join y (a :: b :: r) = a ++ y ++ Txt.join y (b :: r) := by rw [TL.join_eq, TL.join_eq]; rfl
theorem join_one' (y a : Str) : Txt.join y [a] = a := by rw [TL.join_eq]; rfl
theorem join_nil' (y : Str) : Txt.join y [] = Str.empty := by rw [TL.join_eq]; rfl
theorem join_len (y : Str) : ∀ ws : List Str, (Txt.join y ws).length ≤ sumL ws + ws.length * y.length
  | [] => by rw [join_nil']; simp [show Str.empty.length = 0 from rfl]
  | [a] => by rw [join_one']; simp
  | a :: b :: r => by
    have := join_len y (b :: r)
    rw [join_cons2, len_app, len_app, sumL_cons, List.length_cons, Nat.succ_mul]
    omega
theorem join_strOk (hy : PyData.strOk y = true) : ∀ ws : List Str, (∀ w, w ∈ ws → PyData.strOk w = true) → PyData.strOk (Txt.join y ws) = true
  | [], _ => by rw [join_nil']; decide +kernel
  | [a], h => by rw [join_one']; exact h a (by simp)
  | a :: b :: r, h => by
    rw [join_cons2]
    exact strOk_app (strOk_app (h a (by simp)) hy) (join_strOk hy (b :: r) fun w hw => h w (by simp [hw]))
theorem txB_join (hy : PyData.strOk y = true) {ws : List Str} (h : ∀ w, w ∈ ws → PyData.strOk w = true) (hl : sumL ws + ws.length * y.length ≤ 100000) : txB (Txt.join y ws) = true :=
  txB_mk (join_strOk hy ws h) (Nat.le_trans (join_len y ws) hl)
theorem strsOf_map (ss : List Str) : strsOf (ss.map AV.str) = some ss := by
  induction ss with
  | nil => rfl
  | cons s r ih => simp only [List.map_cons, strsOf, ih, Option.map_some]
theorem kJoin_ok (hy : PyData.strOk y = true) {ws : List Str} (h : ∀ w, w ∈ ws → PyData.strOk w = true) (hl : sumL ws + ws.length * y.length ≤ 1000000) (hh : AH) : kJoin y (.fl (ws.map .str)) hh = some (.str (Txt.join y ws), hh) := by
  unfold kJoin
  simp only [seqOf, Option.bind_some, strsOf_map]
  have e1 : (ws.map (·.length)).sum + ws.length * y.length ≤ 1000000 := hl
  simp only [join_strOk hy ws h, decide_eq_true e1, Bool.and_self, if_true]
theorem split_of_join (e : Sep1 y s) {ws : List Str} (hne : ws ≠ []) (h : ∀ w, w ∈ ws → s ∉ TL.tl w) : Txt.split (Txt.join y ws) y = ws := by
  exact TL.split_join (S := []) e.tl e.lo hne h
theorem join_of_split (x y : Str) : Txt.join y (Txt.split x y) = x := by rw [TL.join_eq]; exact StrLaws.join_split x y
end
/-- slices of texts -/
theorem kSl_str {x : Str} (e : txB x = true) (l u : Option Int) (h : AH) : kSl (.str x) l u h = some (.str (cutS x l u), h) := by
  unfold kSl
  simp only
  rw [if_pos (strS_of e)]
theorem txB_cut {x : Str} (e : txB x = true) (l u : Option Int) : txB (cutS x l u) = true := txB_mk (strOk_cut (txB_ok e)) (Nat.le_trans (cutS_length x l u) (txB_le e))
end PI
/-! PIrp: e.replace of written texts, behind a written text. -/
namespace PI
open PySem PySem.Spec PyProof.Rows L2 ClX
def replOk (x y z : Str) : Bool := decide (x.length ≤ 1000000 ∧ z.length ≤ 10) && PyData.strOk (Txt.replace x y z)
def fRepl (y z : Str) : AV → AH → Res AV := fun v h => match v with
  | .str x => if replOk x y z then .ok (.str (Txt.replace x y z)) h else .stuck
  | _ => .stuck
def mRepl (y z : Str) (mo : ME) : ME := fun τ h => (mo τ h).bind (fRepl y z)
@[simp] theorem mRepl_ev {y z : Str} {mo : ME} {τ : AS} {h : AH} : mRepl y z mo τ h = (mo τ h).bind (fRepl y z) := rfl
@[simp] theorem fRepl_ev {x y z : Str} {h : AH} : fRepl y z (.str x) h = if replOk x y z then .ok (.str (Txt.replace x y z)) h else .stuck := rfl
def PE1 (X : Cx) (e : Expr) (t : TE) : Prop :=
  ∀ (pins : List (Addr × Obj)) (s : Shared) (σ : SL) (H : Hp) (Q : VK), Inv X pins σ H s → t σ H Q → wpAny (model X.prog X.w) X.A (eval e X.env) (fun v s' => 1 ≤ s'.toks ∧ EP X pins σ Q v s') X.xe s
section
variable {G : Gx} {B : Bx} {zs : Addr → Prop} {W : WX} {X : Cx} {c c' : Cfg} {L : List Addr} {τ : AS} {σ : SL} {pos pos' p apos cpos tpos c0 c1 : Pos} {e o a b f : Expr} {es : List Expr} {m n mo me mi mx : ME} {ma mk : MA} {mt : MT} {x y z s : Str} {i j k : Nat} {vs : List Nat} {te tb : TE} {t : TA}
theorem pa_cons1 (ha : PE1 X e te) (hr : L2.PAT X es t) (hs : starEach (e :: es) X.env = (false, eval e X.env) :: starEach es X.env := by rfl) : PA X (e :: es) (tCons te t) := by
  refine ⟨fun pos pins s σ H Q I h => ?_⟩
  rw [hs]
  show wpAny _ _ (spliced ((false, eval e X.env) :: backTo pos (starEach es X.env))) _ _ s
  refine Calls.spliced_cons (thn (ha pins s σ H _ I h) fun u s1 ⟨h1, x, H1, I1, r1, q1⟩ => ?_)
  exact thn (hr pos pins s1 σ H1 _ h1 I1 q1) fun us s2 ⟨xs, H2, I2, r2, q2⟩ => ⟨x :: xs, H2, I2, .cons r1 r2, q2⟩
theorem pat_cons (ha : L2.PET X e te) (hr : L2.PAT X es t) (hs : starEach (e :: es) X.env = (false, eval e X.env) :: starEach es X.env := by rfl) : L2.PAT X (e :: es) (tCons te t) := by
  intro pos pins s σ H Q h0 I h
  rw [hs]
  show wpAny _ _ (spliced ((false, eval e X.env) :: backTo pos (starEach es X.env))) _ _ s
  refine Calls.spliced_cons (wpAny_mono (PySem.wpAny_toks_of h0 (ha pins s σ H _ h0 I h)) (fun u s1 q => ?_) fun _ _ z => z.2)
  obtain ⟨h1, x, H1, I1, r1, q1⟩ := q
  exact thn (hr pos pins s1 σ H1 _ h1 I1 q1) fun us s2 ⟨xs, H2, I2, r2, q2⟩ => ⟨x :: xs, H2, I2, .cons r1 r2, q2⟩
theorem pat_of (h : PA X es t) : L2.PAT X es t := fun pos pins s σ H Q _ I q => h.run pos pins s σ H Q I q
theorem pe1_binC {op : Operator} {r : R2} (ho : OpR X (binaryOp op) r) (ha : PE X a te) : PE1 X (.BinOp a op (.Constant (.str x) j c0) pos) (tOp r te (tC (.str x))) := by
  intro pins s σ H Q I h
  refine wpAny_BinOp (thn (ha.run pins s σ H _ I h) fun v s1 ⟨x1, H1, I1, r1, q1⟩ => ?_)
  refine Calls.Constant_str ?_
  have I2 := I1.tok (s1.toks + 1)
  exact wpAny_mono (PySem.wpAny_toks_of (n := 1) (by show 1 ≤ s1.toks + 1; omega) (ho pins { s1 with toks := s1.toks + 1 } σ H1 x1 (.str x) v _ Q I2 r1 ⟨_, rfl⟩ q1)) (fun _ _ q => q) fun _ _ z => z.2
/-- judgements behind a token -/
def IET (G : Gx) (B : Bx) (W : WX) (X : Cx) (e : Expr) (m : ME) : Prop := L2.PET X e (tI G B W m)
def IAT (G : Gx) (B : Bx) (W : WX) (X : Cx) (es : List Expr) (m : MA) : Prop := L2.PAT X es (tIa G B W m)
def IE1 (G : Gx) (B : Bx) (W : WX) (X : Cx) (e : Expr) (m : ME) : Prop := PE1 X e (tI G B W m)
theorem iet_of (h : IE G B W X e m) : IET G B W X e m := CwR.PET.of h
theorem iat_of (h : IA G B W X es ma) : IAT G B W X es ma := pat_of h
theorem cons_ok {σ : SL} {H : Hp} {Q : List V → Hp → Prop} (t : tIa G B W (mCons m ma) σ H Q) : tCons (tI G B W m) (tIa G B W ma) σ H Q := by
  obtain ⟨c, τ, L, eH, rl, s, p⟩ := t
  refine ⟨c, τ, L, eH, rl, s, (Post.bind (R := RV G) p).imp fun u H1 ⟨c1, v, e1, N1, x1, p1⟩ => ?_⟩
  refine ⟨c1, τ, L, e1.symm, N1.rel, s.nxt N1, (Post.bind (R := RVs G) p1).imp fun us H2 ⟨c2, vs, e2, N2, x2, p2⟩ => ?_⟩
  subst e2
  exact p2 c2 _ (.refl N2.rel) rfl (.cons (x1.mono N2.mv) x2)
theorem ia_cons1 (ha : IE1 G B W X e m) (hr : IAT G B W X es ma) (hs : starEach (e :: es) X.env = (false, eval e X.env) :: starEach es X.env := by rfl) : IA G B W X (e :: es) (mCons m ma) :=
  PA.imp (pa_cons1 ha hr hs) fun _ _ _ t => cons_ok t
theorem iat_cons (ha : IET G B W X e m) (hr : IAT G B W X es ma) (hs : starEach (e :: es) X.env = (false, eval e X.env) :: starEach es X.env := by rfl) : IAT G B W X (e :: es) (mCons m ma) :=
  fun pos pins s σ H Q h0 I q => pat_cons ha hr hs pos pins s σ H Q h0 I (cons_ok q)
theorem ie1_binC {op : Operator} {kk : AV → AV → AH → Option (AV × AH)} {r : R2} (ho : OpR X (binaryOp op) r) (hk : AO2 G kk r) (ha : IE G B W X a m) (kx : PyData.strOk x = true := by decide +kernel) : IE1 G B W X (.BinOp a op (.Constant (.str x) j c0) pos) (mBin kk m (mC (.str x))) :=
  fun pins s σ H Q I t => pe1_binC ho ha pins s σ H Q I (by
    have q := two hk t
    obtain ⟨c, τ, L, eH, rl, s', p⟩ := q
    exact ⟨c, τ, L, eH, rl, s', p.imp fun u H1 ⟨c1, τ1, L1, e1, r1, s1, p1⟩ => by
      subst e1
      exact p1 c1 (.str x) (.refl r1) rfl (.str kx)⟩)
theorem iet_repl (ho : IE G B W X o mo) (hyz : (y == z) = false := by decide)
    (hst : starEach [.Constant (.str y) j c0, .Constant (.str z) k c1] X.env = [(false, eval (.Constant (.str y) j c0) X.env), (false, eval (.Constant (.str z) k c1) X.env)] := by rfl)
    (hbase : attributeBase o "replace" X.env (eval o X.env) = eval o X.env := by rfl) (hline : (apos.endLine == pos.line) = true := by rfl) :
    IET G B W X (.Call (.Attribute o "replace" apos) [.Constant (.str y) j c0, .Constant (.str z) k c1] [] pos) (mRepl y z mo) :=
  fun pins s σ H Q h0 I q => CwR.pet_replC ho hyz hst hbase hline pins s σ H Q h0 I (by
    obtain ⟨c, τ, L, eH, rl, s', p⟩ := q
    refine ⟨c, τ, L, eH, rl, s', (Post.bind (R := RV G) p).imp fun u H1 ⟨c1, v, e1, N1, x1, p1⟩ => ?_⟩
    subst e1
    cases x1 with
    | @str x kx =>
      have p1 : Post G (RV G) c1 (fun k d H' => W k d σ H') Q (if replOk x y z then .ok (.str (Txt.replace x y z)) c1.h else .stuck) := p1
      by_cases hr : replOk x y z = true
      · rw [if_pos hr] at p1
        unfold replOk at hr
        rw [Bool.and_eq_true] at hr
        obtain ⟨h1, h2⟩ := of_decide_eq_true hr.1
        refine ⟨x, rfl, ?_, fin N1.rel (.str hr.2) p1⟩
        have := Nat.mul_le_mul (show x.length + 1 ≤ 1000001 by omega) h2
        omega
      · rw [if_neg hr] at p1; exact p1.elim
    | _ => exact p1.elim)
end
end PI
/-! PItn: the texts of integers; upper. -/
namespace PI
open PySem PySem.Spec PyProof.Rows L2 ClX
/-- the text of an integer -/
def itx (i : Int) : Str := Str.ofString (toString i)
theorem itx_nat (n : Nat) : TL.tl (itx (n : Int)) = TL.numL n := TL.tl_num n
theorem itx_neg (n : Nat) : TL.tl (itx (-((n + 1 : Nat) : Int))) = 45 :: TL.numL (n + 1) := by
  have e : toString (-((n + 1 : Nat) : Int)) = "-" ++ toString ((n + 1 : Nat) : Int) := rfl
  unfold itx
  rw [e, TL.tl_ofString, String.toList_append, List.map_append, ← TL.tl_ofString (toString ((n + 1 : Nat) : Int))]
  exact congrArg (45 :: ·) (TL.tl_num (n + 1))
theorem int_cases (i : Int) : (∃ n : Nat, i = (n : Int)) ∨ ∃ n : Nat, i = -((n + 1 : Nat) : Int) := by
  rcases Int.lt_or_le i 0 with h | h
  · exact .inr ⟨(-i).toNat - 1, by omega⟩
  · exact .inl ⟨i.toNat, by omega⟩
theorem numL_len1 (n : Nat) : 1 ≤ (TL.numL n).length := by
  have := TL.numL_ne n
  cases h : TL.numL n with
  | nil => exact absurd h this
  | cons => simp
theorem itx_mem {i : Int} {c : Nat} (h : c ∈ TL.tl (itx i)) : c = 45 ∨ (48 ≤ c ∧ c ≤ 57) := by
  rcases int_cases i with ⟨n, rfl⟩ | ⟨n, rfl⟩
  · rw [itx_nat] at h
    exact .inr (TL.numL_digits n c h)
  · rw [itx_neg] at h
    rcases List.mem_cons.mp h with h | h
    · exact .inl h
    · exact .inr (TL.numL_digits (n + 1) c h)
theorem itx_len {i : Int} {k : Nat} (hk : 0 < k) (h1 : -(10 ^ k : Nat) < i) (h2 : i < (10 ^ k : Nat)) : 1 ≤ (itx i).length ∧ (itx i).length ≤ k + 1 := by
  rcases int_cases i with ⟨n, rfl⟩ | ⟨n, rfl⟩
  · have := TL.numL_len (n := n) hk (by omega)
    have := numL_len1 n
    rw [TL.len_tl, itx_nat]
    omega
  · have := TL.numL_len (n := n + 1) hk (by omega)
    rw [TL.len_tl, itx_neg, List.length_cons]
    omega
theorem itx_ok (i : Int) : PyData.strOk (itx i) = true := ok_mem fun c hc => by
  have := itx_mem hc
  omega
theorem itx_int {i : Int} (hl : (itx i).length ≤ 600) : PySem.intText? (itx i) = some i := by
  rcases int_cases i with ⟨n, rfl⟩ | ⟨n, rfl⟩
  · have e := itx_nat n
    rw [TL.len_tl, e] at hl
    refine Eq.trans (PySem.intText_digits (x := itx (n : Int)) ?_ ?_ (by rw [TL.len_tl, e]; omega)) ?_
    · intro c hc
      exact TL.numL_digits n c (by rw [← e]; exact hc)
    · intro h
      have h : TL.tl (itx (n : Int)) = [] := h
      rw [e] at h
      exact TL.numL_ne n h
    · have : NumText.digitsVal (TL.tl (itx (n : Int))) = n := by rw [e]; exact TL.numL_val n
      exact congrArg some (by rw [show (itx (n : Int)).cps.toList = TL.tl (itx (n : Int)) from rfl, this])
  · have e := itx_neg n
    rw [TL.len_tl, e, List.length_cons] at hl
    refine Eq.trans (PySem.intText_neg (x := itx (-((n + 1 : Nat) : Int))) e (TL.numL_digits (n + 1)) (TL.numL_ne (n + 1)) (by rw [TL.len_tl, e, List.length_cons]; omega)) ?_
    rw [TL.numL_val]
theorem log_small {i : Int} (h1 : -(10 ^ 60 : Nat) < i) (h2 : i < (10 ^ 60 : Nat)) : i.natAbs.log2 < 1920 := by
  have h : i.natAbs < 10 ^ 60 := by omega
  have h3 : i.natAbs < 2 ^ 1920 := Nat.lt_of_lt_of_le h (by decide +kernel)
  by_cases z : i.natAbs = 0
  · rw [z]; decide
  · exact (Nat.log2_lt z).mpr h3
/-- upper, sign by sign -/
def upC (c : Nat) : Nat := if 97 ≤ c ∧ c ≤ 122 then c - 32 else c
theorem upper_tl : ∀ (l : List Nat), (∀ c, c ∈ l → c < 128) → TL.tl (Txt.upper ⟨l.toArray⟩) = l.map upC
  | [], _ => by decide
  | c :: r, h => by
    have e : (⟨(c :: r).toArray⟩ : Str) = ⟨#[c]⟩ ++ ⟨r.toArray⟩ := TL.ext_tl (by rw [TL.tl_append, TL.tl_mk, TL.tl_mk]; rfl)
    rw [e, PySem.W.KOpn.upper_app, TL.tl_append, PySem.W.KOpn.upper_one (h c (by simp)), upper_tl r fun d hd => h d (by simp [hd])]
    rfl
theorem upper_tlS {x : Str} (h : ∀ c, c ∈ TL.tl x → c < 128) : TL.tl (Txt.upper x) = (TL.tl x).map upC := by
  have := upper_tl (TL.tl x) h
  rw [TL.mk_tl] at this
  exact this
theorem upper_tx {x : Str} (e : txB x = true) (h : ∀ c, c ∈ TL.tl x → c < 128) : txB (Txt.upper x) = true := by
  have u := upper_tlS h
  refine txB_mk (ok_mem fun k hk => ?_) ?_
  · rw [u] at hk
    obtain ⟨c, hc, rfl⟩ := List.mem_map.mp hk
    have := h c hc
    unfold upC
    split <;> omega
  · rw [TL.len_tl, u, List.length_map, ← TL.len_tl]
    exact txB_le e
/-- a first sign taken away -/
theorem rempre_hit {x y : Str} {s : Nat} {r : List Nat} (e : Sep1 y s) (h : TL.tl x = s :: r) : TL.tl (Txt.removeprefix x y) = r := by
  have h' : x.cps.toList = s :: r := h
  have e' : y.cps.toList = [s] := e.tl
  have lx : x.length = r.length + 1 := by rw [TL.len_tl, h]; rfl
  rw [StrLaws.removeprefix_eq, StrLaws.subAt_eq, e.len, h', e']
  rw [if_pos (by rw [lx]; simp)]
  show ((s :: r).drop 1).take (x.length - 1) = r
  rw [lx]
  simp
theorem rempre_miss {x y : Str} {s : Nat} (e : Sep1 y s) (h : ∀ r, TL.tl x ≠ s :: r) : Txt.removeprefix x y = x := by
  have e' : y.cps.toList = [s] := e.tl
  rw [StrLaws.removeprefix_eq, StrLaws.subAt_eq, e.len, e', if_neg]
  intro c
  rw [Bool.and_eq_true] at c
  have c2 := c.2
  cases q : x.cps.toList with
  | nil => rw [q] at c2; simp at c2
  | cons a r =>
    rw [q] at c2
    simp at c2
    exact h r (by rw [← c2]; exact q)
/-- one sign replaced -/
theorem replL_one (c : Nat) (z : List Nat) : ∀ l : List Nat, StrLaws.replL [c] z l = (l.map fun d => if d = c then z else [d]).flatten
  | [] => StrLaws.replL_nil
  | d :: r => by
    by_cases e : d = c
    · subst e
      rw [StrLaws.replL_hit (by simp) (by simp)]
      simp [replL_one d z r]
    · rw [StrLaws.replL_miss (by simpa using e), replL_one c z r]
      simp [e]
theorem replace_tl {x y z : Str} {s : Nat} (e : Sep1 y s) : TL.tl (Txt.replace x y z) = ((TL.tl x).map fun d => if d = s then TL.tl z else [d]).flatten := by
  have := StrLaws.replace_list (x := x) (y := y) (z := z) (by rw [e.len]; exact Nat.le_refl _)
  have e' : y.cps.toList = [s] := e.tl
  rw [e', replL_one] at this
  exact this
end PI
/-! PIlk: a comprehension over the keys of a dict of the plain heap; it is locked meanwhile. -/
namespace PI
open PySem PySem.Spec PyProof.Rows L2 ClX
section
variable {G : Gx} {c c' c2 : Cfg} {a b : Addr} {n : Nat}
/-- values of c are values of c' (a place may come to life again) -/
structure Mw (c c' : Cfg) : Prop where
  len : c.h.length ≤ c'.h.length
  same : ∀ n : Nat, n < c.h.length → c'.rho n = c.rho n
  keep : ∀ b o, c.H b = some o → Frz c b → c'.H b = some o ∧ Frz c' b
theorem Mw.rd {u : HO} (N : Mw c c') (r : Rd c.H a u) (f : Frz c a) : Rd c'.H a u ∧ Frz c' a := by
  rcases r with e | ⟨o, e⟩
  · exact ⟨.inl (N.keep _ _ e f).1, (N.keep _ _ e f).2⟩
  · exact ⟨.inr ⟨o, (N.keep _ _ e f).1⟩, (N.keep _ _ e f).2⟩
mutual
theorem RV.mw (N : Mw c c') : ∀ {v : AV} {u : V}, RV G c v u → RV G c' v u
  | _, _, .non => .non
  | _, _, .bl => .bl
  | _, _, .int => .int
  | _, _, .str k => .str k
  | _, _, .ty => .ty
  | _, _, .cls => .cls
  | _, _, .fn => .fn
  | _, _, .kd => .kd
  | _, _, .ref (n := n) hn => by rw [← N.same n hn]; exact .ref (Nat.lt_of_lt_of_le hn N.len)
  | _, _, .tup r f x => .tup (N.rd r f).1 (N.rd r f).2 (RVs.mw N x)
  | _, _, .tupK k x => .tupK k (RVs.mw N x)
  | _, _, .fl r f x => .fl (N.rd r f).1 (N.rd r f).2 (RVs.mw N x)
  | _, _, .flK k x => .flK k (RVs.mw N x)
  | _, _, .fd r f x => .fd (N.rd r f).1 (N.rd r f).2 (RVd.mw N x)
  | _, _, .obj e f x => .obj (N.keep _ _ e f).1 (N.keep _ _ e f).2 (RVf.mw N x)
theorem RVs.mw (N : Mw c c') : ∀ {v : List AV} {u : List V}, RVs G c v u → RVs G c' v u
  | _, _, .nil => .nil
  | _, _, .cons r x => .cons (RV.mw N r) (RVs.mw N x)
theorem RVf.mw (N : Mw c c') : ∀ {v : List (Nat × AV)} {u : List (Str × V)}, RVf G c v u → RVf G c' v u
  | _, _, .nil => .nil
  | _, _, .cons r x => .cons (RV.mw N r) (RVf.mw N x)
theorem RVd.mw (N : Mw c c') : ∀ {v : List (Key × AV)} {u : List (Key × V)}, RVd G c v u → RVd G c' v u
  | _, _, .nil => .nil
  | _, _, .cons k r x => .cons k (RV.mw N r) (RVd.mw N x)
end
theorem RO.mw {o : AO} (N : Mw c c') (e : c'.H a = c.H a) (r : RO G c o a) : RO G c' o a := by
  cases o with
  | lst xs => obtain ⟨us, q, x⟩ := r; exact ⟨us, e.trans q, x.mw N⟩
  | dk xs => obtain ⟨us, q, x⟩ := r; exact ⟨us, e.trans q, x.mw N⟩
  | ins c fs => obtain ⟨dx, us, q, x⟩ := r; exact ⟨dx, us, e.trans q, x.mw N⟩
/-! the lock -/
def lkIn (c : Cfg) (n : Nat) (d : Addr) (O : HO) : Cfg := { c with Z := fun a => c.Z a ∨ a = d, h := c.h.set n none, H := upd c.H d O }
def lkOut (c c2 : Cfg) (n : Nat) (d : Addr) (o : AO) (O : HO) : Cfg := { c2 with Z := c.Z, h := c2.h.set n (some o), H := upd c2.H d O }
theorem set_live {h : AH} {n m : Nat} {o : AO} (e : (h.set n none)[m]? = some (some o)) : m ≠ n ∧ h[m]? = some (some o) := by
  by_cases q : n = m
  · subst q
    by_cases hn : n < h.length
    · rw [List.getElem?_set_self hn] at e; cases e
    · rw [List.getElem?_eq_none_iff.mpr (by simp; omega)] at e; cases e
  · rw [List.getElem?_set_ne q] at e
    exact ⟨fun z => q z.symm, e⟩
theorem lkIn_mv {o : AO} {O : HO} (e : c.h[n]? = some (some o)) : Mv c (lkIn c n (c.rho n) O) := by
  refine ⟨by simp [lkIn], fun m q => ?_, fun _ _ => rfl, fun m u hm q => ?_, fun b u q f => ?_, fun b u q f z => ?_, fun b u q => ?_⟩
  · show (c.h.set n none)[m]? = some none
    rw [List.getElem?_set_ne (fun z => by rw [← z, e] at q; cases q)]; exact q
  · have := (set_live (show (c.h.set n none)[m]? = some (some u) from q)).2
    exact (beyond hm this).elim
  · show upd c.H (c.rho n) O b = some u
    rw [upd_ne (fun z => f.1 n o e z.symm)]; exact q
  · rcases z with z | z
    · exact f.2 z
    · exact f.1 n o e z.symm
  · show ∃ o', upd c.H (c.rho n) O b = some o'
    by_cases hb : b = c.rho n
    · subst hb; exact ⟨O, upd_same⟩
    · exact ⟨u, by rw [upd_ne hb]; exact q⟩
theorem lkIn_rel {o : AO} {O : HO} (r : Rel G c) (e : c.h[n]? = some (some o)) : Rel G (lkIn c n (c.rho n) O) := by
  have M := lkIn_mv (O := O) e
  refine ⟨fun m u q => ?_, fun m m' u u' q q' => ?_, fun x z => ?_⟩
  · obtain ⟨hm, q⟩ := set_live (show (c.h.set n none)[m]? = some (some u) from q)
    exact (r.obj m u q).mono M (upd_ne fun z => hm (r.inj _ _ _ _ q e z))
  · exact r.inj m m' u u' (set_live (show (c.h.set n none)[m]? = some (some u) from q)).2 (set_live (show (c.h.set n none)[m']? = some (some u') from q')).2
  · rcases z with z | z
    · obtain ⟨na, u, q⟩ := r.zok x z
      have hx : x ≠ c.rho n := fun y => na n o e y.symm
      exact ⟨fun m u q => na m u (set_live (show (c.h.set n none)[m]? = some (some u) from q)).2, u, by show upd c.H (c.rho n) O x = _; rw [upd_ne hx]; exact q⟩
    · subst z
      refine ⟨fun m u q y => ?_, O, upd_same⟩
      obtain ⟨hm, q⟩ := set_live (show (c.h.set n none)[m]? = some (some u) from q)
      exact hm (r.inj _ _ _ _ q e y)
theorem lkOut_nxt {o : AO} {O O' : HO} (r : Rel G c) (e : c.h[n]? = some (some o)) (N : Nxt G (lkIn c n (c.rho n) O) c2) (new : ∀ c3, Mv c c3 → c3.H (c.rho n) = some O' → RO G c3 o (c.rho n)) :
    Nxt G c (lkOut c c2 n (c.rho n) o O') ∧ Mw c2 (lkOut c c2 n (c.rho n) o O') := by
  have M := lkIn_mv (O := O) e
  have hn : n < c.h.length := by
    rcases Nat.lt_or_ge n c.h.length with q | q
    · exact q
    · rw [List.getElem?_eq_none_iff.mpr q] at e; cases e
  have hl : c.h.length ≤ c2.h.length := by have := N.mv.len; simpa [lkIn] using this
  have hr : c2.rho n = c.rho n := N.mv.same n (by simpa [lkIn] using hn)
  have zd : c2.Z (c.rho n) := by rw [N.z]; exact .inr rfl
  have nad : NA c2 (c.rho n) := (N.rel.zok _ zd).1
  have live : ∀ {m : Nat} {u : AO}, (c2.h.set n (some o))[m]? = some (some u) → (m = n ∧ u = o) ∨ (m ≠ n ∧ c2.h[m]? = some (some u)) := fun {m u} q => by
    by_cases hm : n = m
    · subst hm
      rw [List.getElem?_set_self (Nat.lt_of_lt_of_le hn hl)] at q
      cases q
      exact .inl ⟨rfl, rfl⟩
    · rw [List.getElem?_set_ne hm] at q
      exact .inr ⟨fun z => hm z.symm, q⟩
  have Mc : Mv c (lkOut c c2 n (c.rho n) o O') := by
    refine ⟨by simp [lkOut]; exact hl, fun m q => ?_, fun m hm => N.mv.same m (by simpa [lkIn] using hm), fun m u hm q => ?_, fun b u q f => ?_, fun b u q f => f.2, fun b u q => ?_⟩
    · have hm : n ≠ m := fun z => by rw [← z, e] at q; cases q
      show (c2.h.set n (some o))[m]? = some none
      rw [List.getElem?_set_ne hm]
      refine N.mv.dead m ?_
      show (c.h.set n none)[m]? = some none
      rw [List.getElem?_set_ne hm]
      exact q
    · rcases live q with ⟨rfl, _⟩ | ⟨_, q⟩
      · omega
      · have y := N.mv.fresh m u (by simpa [lkIn] using hm) q
        show c.H (c2.rho m) = none
        have y : upd c.H (c.rho n) O (c2.rho m) = none := y
        by_cases hx : c2.rho m = c.rho n
        · rw [hx, upd_same] at y; cases y
        · rw [upd_ne hx] at y; exact y
    · have hb : b ≠ c.rho n := fun z => f.1 n o e z.symm
      show upd c2.H (c.rho n) O' b = some u
      rw [upd_ne hb]
      exact N.mv.keep b u (M.keep b u q f) (M.frz f q)
    · show ∃ o', upd c2.H (c.rho n) O' b = some o'
      by_cases hb : b = c.rho n
      · subst hb; exact ⟨O', upd_same⟩
      · obtain ⟨u1, q1⟩ := M.there b u q
        obtain ⟨u2, q2⟩ := N.mv.there b u1 q1
        exact ⟨u2, by rw [upd_ne hb]; exact q2⟩
  have Mx : Mw c2 (lkOut c c2 n (c.rho n) o O') := by
    refine ⟨by simp [lkOut], fun _ _ => rfl, fun b u q f => ?_⟩
    have hb : b ≠ c.rho n := fun z => f.2 (by rw [z]; exact zd)
    refine ⟨by show upd c2.H (c.rho n) O' b = some u; rw [upd_ne hb]; exact q, fun m w qm => ?_, fun z => f.2 (by rw [N.z]; exact .inl z)⟩
    rcases live qm with ⟨rfl, _⟩ | ⟨_, qm⟩
    · exact fun z => hb (z.symm.trans hr)
    · exact f.1 m w qm
  refine ⟨⟨⟨fun m u q => ?_, fun m m' u u' q q' z => ?_, fun x z => ?_⟩, Mc, rfl, fun x z => ?_⟩, Mx⟩
  · rcases live q with ⟨rfl, rfl⟩ | ⟨hm, q⟩
    · show RO G _ _ (c2.rho m)
      rw [hr]
      exact new _ Mc upd_same
    · exact (N.rel.obj m u q).mw Mx (upd_ne fun z => nad m u q z)
  · rcases live q with ⟨h1, _⟩ | ⟨_, qa⟩
    · rcases live q' with ⟨h2, _⟩ | ⟨_, qb⟩
      · rw [h1, h2]
      · have z : c2.rho m = c2.rho m' := z
        rw [h1, hr] at z
        exact (nad _ _ qb z.symm).elim
    · rcases live q' with ⟨h2, _⟩ | ⟨_, qb⟩
      · have z : c2.rho m = c2.rho m' := z
        rw [h2, hr] at z
        exact (nad _ _ qa z).elim
      · exact N.rel.inj _ _ _ _ qa qb z
  · have z : c.Z x := z
    have z2 : c2.Z x := by rw [N.z]; exact .inl z
    have hx : x ≠ c.rho n := fun y => (r.zok x z).1 n o e y.symm
    obtain ⟨na, u, q⟩ := N.rel.zok x z2
    refine ⟨fun m w qm => ?_, u, by show upd c2.H (c.rho n) O' x = some u; rw [upd_ne hx]; exact q⟩
    rcases live qm with ⟨rfl, _⟩ | ⟨_, qm⟩
    · exact fun y => hx (y.symm.trans hr)
    · exact na m w qm
  · have hx : x ≠ c.rho n := fun y => (r.zok x z).1 n o e y.symm
    show upd c2.H (c.rho n) O' x = c.H x
    rw [upd_ne hx, N.zz x (.inl z)]
    show upd c.H (c.rho n) O x = c.H x
    rw [upd_ne hx]
end
section
variable {G : Gx} {B : Bx} {zs : Addr → Prop} {W : WX} {X : Cx} {c c' c1 : Cfg} {L : List Addr} {τ : AS} {σ : SL} {pos pos' p : Pos} {e o a : Expr} {me m : ME} {ma : MA} {mt : MT} {x s : Str} {i : Nat}
theorem lc_go {g : MG} {Q : VK} {xs : List AV} {J : It} (vs : List Nat) (rel1 : Rel G c1) (s1 : RS G B c1 L τ σ)
    (gs : ∃ Gd Y, Walk J xs.length Gd Y ∧ (∀ c', Mv c1 c' → (∀ a, c1.Z a → c'.H a = c1.H a) → Gd c'.H) ∧ ∀ c' i x H'' v, Mv c1 c' → Rel G c' → xs[i]? = some v → Y i c'.H x H'' → Nxt G c' { c' with H := H'' } ∧ RV G { c' with H := H'' } v x)
    (p1 : Post G (RV G) c1 (fun k d H' => W k d σ H') Q (lcL g mt me (wipeA τ vs) xs [] c1.h)) : tLc (fun σ H R => R J H) (tGe G B vs g) (tIt G B W0 mt) (tI G B W0 me) vs σ c1.H Q := by
  obtain ⟨Gd, Y, w, hG, hY⟩ := gs
  intro D hD
  obtain ⟨L0, hL0, sw⟩ := s1.wipeAll vs
  let Z1 : Addr → Prop := fun a => c1.Z a ∨ a = D
  have nDZ : ¬ c1.Z D := rel1.nz hD
  have nDL : ∀ a, a ∈ L0 → c1.Z a := fun a h => s1.z a (hL0 a h)
  -- the list stands at D, nobody else holds it
  refine ⟨fun i k H => ∃ (c2 : Cfg) (acc : List AV) (us : List V), c2.H = H ∧ k + i = xs.length ∧ Rel G c2 ∧ Mv c1 c2 ∧ (∀ a, c2.Z a ↔ (c1.Z a ∨ a = D)) ∧ (∀ a, c1.Z a → c2.H a = c1.H a) ∧ c2.H D = some (.lst us) ∧ RVs G c2 acc us ∧
      Post G (RV G) c1 (fun k d H' => W k d σ H') Q (lcL g mt me (wipeA τ vs) (xs.drop i) acc c2.h),
    ⟨xs.length, { c1 with Z := fun a => c1.Z a ∨ a = D, H := upd c1.H D (.lst []) }, [], [], rfl, rfl, rel1.mine hD, Mv.mine hD, fun a => Iff.rfl, fun a z => upd_ne fun y => nDZ (by rw [← y]; exact z), upd_same, .nil, p1⟩, ?_⟩
  rintro i k H ⟨c2, acc, us, rfl, hk, r2, M2, hZ, hH, hD2, y2, p2⟩
  have hg2 := hG c2 M2 hH
  by_cases hi2 : i < xs.length
  · refine .inr ⟨w.goes i c2.H hi2 hg2, fun H' => ∃ k', k' < k ∧ ∃ (c3 : Cfg) (acc : List AV) (us : List V), c3.H = H' ∧ k' + (i + 1) = xs.length ∧ Rel G c3 ∧ Mv c1 c3 ∧ (∀ a, c3.Z a ↔ (c1.Z a ∨ a = D)) ∧ (∀ a, c1.Z a → c3.H a = c1.H a) ∧ c3.H D = some (.lst us) ∧ RVs G c3 acc us ∧
        Post G (RV G) c1 (fun k d H' => W k d σ H') Q (lcL g mt me (wipeA τ vs) (xs.drop (i + 1)) acc c3.h), fun H' h => h, fun x H' y => ?_⟩
    obtain ⟨N3, x3⟩ := hY c2 i x H' xs[i] M2 r2 (by simp [hi2]) (w.yields i c2.H x H' hi2 hg2 y)
    rw [List.drop_eq_getElem_cons hi2] at p2
    unfold lcL at p2
    cases q : g xs[i] (wipeA τ vs) with
    | none => rw [q] at p2; exact p2.elim
    | some τ2 =>
      rw [q] at p2
      simp only at p2
      -- the slots, seen from c3
      have cz : ∀ a, c1.Z a → c2.Z a := fun a z => (hZ a).mpr (.inl z)
      have sw2 : RS G B c2 L0 (wipeA τ vs) (wipe σ vs) := sw.mono M2 fun a h => ⟨cz a (nDL a h), hH a (nDL a h)⟩
      have sw3 := sw2.nxt N3
      have rest : ∀ {c4 : Cfg}, Nxt G c2 c4 → (Rel G c4 ∧ Mv c1 c4 ∧ (∀ a, c4.Z a ↔ (c1.Z a ∨ a = D)) ∧ (∀ a, c1.Z a → c4.H a = c1.H a) ∧ c4.H D = some (.lst us) ∧ RVs G c4 acc us) := fun {c4} N => by
        refine ⟨N.rel, M2.trans N.mv, fun a => by rw [N.z]; exact hZ a, fun a z => (N.zz a (cz a z)).trans (hH a z), (N.zz D ((hZ D).mpr (.inr rfl))).trans hD2, y2.mono N.mv⟩
      refine ⟨{ c2 with H := H' }, _, L0, xs[i], τ2, rfl, N3.rel, sw3, x3, q, fun σ2 s2 hw => ⟨hw.trans wipe_idem, { c2 with H := H' }, τ2, L0, rfl, N3.rel, s2, ?_⟩⟩
      revert p2
      cases eT : mt τ2 c2.h with
      | exc _ _ _ => exact fun p2 => p2.elim
      | stuck => exact fun p2 => p2.elim
      | ok b h4 =>
        intro p2 c4 u4 N4 e4 x4
        subst x4
        subst e4
        have p2 : Post G (RV G) c1 (fun k d H' => W k d σ H') Q (if b = true then (noX (me τ2 c4.h)).bind fun y h => if small (acc.length + 1) then lcL g mt me (wipeA τ vs) (xs.drop (i + 1)) (acc ++ [y]) h else .stuck else lcL g mt me (wipeA τ vs) (xs.drop (i + 1)) acc c4.h) := p2
        have N24 := N3.trans N4
        cases b with
        | false =>
          rw [if_neg Bool.false_ne_true] at p2 ⊢
          obtain ⟨a1, a2, a3, a4, a5, a6⟩ := rest N24
          exact ⟨k - 1, by omega, c4, acc, us, rfl, by omega, a1, a2, a3, a4, a5, a6, p2⟩
        | true =>
          rw [if_pos rfl] at p2 ⊢
          refine ⟨c4, τ2, L0, rfl, N4.rel, s2.nxt N4, ?_⟩
          revert p2
          cases eE : me τ2 c4.h with
          | exc _ _ _ => exact fun p2 => p2.elim
          | stuck => exact fun p2 => p2.elim
          | ok y h5 =>
            intro p2 c5 u5 N5 e5 x5
            subst e5
            have p2 : Post G (RV G) c1 (fun k d H' => W k d σ H') Q (if small (acc.length + 1) then lcL g mt me (wipeA τ vs) (xs.drop (i + 1)) (acc ++ [y]) c5.h else .stuck) := p2
            by_cases hl : small (acc.length + 1) = true
            · rw [if_pos hl] at p2
              obtain ⟨a1, a2, a3, a4, a5, a6⟩ := rest (N24.trans N5)
              refine ⟨us, a5, by rw [← a6.length]; exact Nat.lt_of_lt_of_le (Nat.lt_succ_self _) (small_le hl), k - 1, by omega, { c5 with H := upd c5.H D (.lst (us ++ [u5])) }, acc ++ [y], us ++ [u5], rfl, by omega, ?_⟩
              have zD : c5.Z D := (a3 D).mpr (.inr rfl)
              have M6 := Mv.turn (O := .lst (us ++ [u5])) zD
              exact ⟨a1.turn zD, a2.trans M6, a3, fun a z => (upd_ne fun y => nDZ (by rw [← y]; exact z)).trans (a4 a z), upd_same, (RVs.append a6 (.cons x5 .nil)).mono M6, p2⟩
            · rw [if_neg hl] at p2; exact p2.elim
  · have hl : xs.length ≤ i := by omega
    have hk0 : i = xs.length := by omega
    subst hk0
    refine .inl ⟨w.stops c2.H hg2, ?_⟩
    rw [List.drop_length] at p2
    have M3 : Mv c2 { c2 with Z := c1.Z } := Mv.fewer fun a z => (hZ a).mpr (.inl z)
    have r3 : Rel G { c2 with Z := c1.Z } := r2.fewer fun a z => (hZ a).mpr (.inl z)
    have N : Nxt G c1 { c2 with Z := c1.Z } := ⟨r3, M2.trans M3, rfl, hH⟩
    exact p2 { c2 with Z := c1.Z } (.ref D) N rfl (.fl (.inl hD2) ⟨(r2.zok D ((hZ D).mpr (.inr rfl))).1, nDZ⟩ (y2.mono M3))
def mLcK (j : Nat) (vs : List Nat) (g : MG) (mt : MT) (me : ME) : ME := fun τ h => match τ[j]? with
  | some (some (.ref n)) => match h[n]? with
    | some (some (.dk kvs)) => match lcL g mt me (wipeA τ vs) (kvs.map fun p => keyV p.1) [] (h.set n none) with
      | .ok v h' => .ok v (h'.set n (some (.dk kvs)))
      | _ => .stuck
    | _ => .stuck
  | _ => .stuck
theorem mLcK_ev {j : Nat} {vs : List Nat} {g : MG} {h : AH} {n : Nat} {kvs : List (Key × AV)} (e1 : τ[j]? = some (some (.ref n))) (e2 : h[n]? = some (some (.dk kvs))) : mLcK j vs g mt me τ h = match lcL g mt me (wipeA τ vs) (kvs.map fun p => keyV p.1) [] (h.set n none) with
      | .ok v h' => .ok v (h'.set n (some (.dk kvs)))
      | _ => .stuck := by
  unfold mLcK
  rw [e1]
  simp only
  rw [e2]
theorem rvd_keyn : ∀ {xs : List (Key × AV)} {us : List (Key × V)}, RVd G c xs us → ∀ i : Nat, (xs[i]?).map (·.1) = (us[i]?).map (·.1) ∧ (∀ p, xs[i]? = some p → kOk p.1 = true)
  | _, _, .nil, i => by simp
  | _, _, .cons k r x, 0 => by simp; exact k
  | _, _, .cons k r x, i + 1 => by simpa using rvd_keyn x i
theorem lcK_ok {j : Nat} {g : MG} {σ : SL} {H : Hp} {Q : VK} (vs : List Nat) (t : tI G B W (mLcK j vs g mt me) σ H Q) : tLockE (tLc (iKeys (tI G B W (mVar j))) (tGe G B vs g) (tIt G B W0 mt) (tI G B W0 me) vs) σ H Q := by
  obtain ⟨c, τ, L, rfl, rl, s, p⟩ := t
  unfold mLcK at p
  split at p
  · rename_i n q1
    split at p
    · rename_i kvs q2
      obtain ⟨us, q3, y⟩ := rl.obj n _ q2
      refine ⟨c.rho n, .dK us, q3, trivial, fun od => ?_⟩
      have hn : n < c.h.length := by
        rcases Nat.lt_or_ge n c.h.length with q | q
        · exact q
        · rw [List.getElem?_eq_none_iff.mpr q] at q2; cases q2
      have M := lkIn_mv (O := .frz od (.dK us)) q2
      have R1 := lkIn_rel (O := .frz od (.dK us)) rl q2
      have s1 : RS G B (lkIn c n (c.rho n) (.frz od (.dK us))) L τ σ := s.mono M fun a h => ⟨.inl (s.z a h), by
        have : a ≠ c.rho n := fun z => (rl.zok a (s.z a h)).1 n _ q2 z.symm
        exact upd_ne this⟩
      show iKeys (tI G B W (mVar j)) σ (lkIn c n (c.rho n) (.frz od (.dK us))).H _
      refine ⟨_, τ, L, rfl, R1, s1, ?_⟩
      have mv : mVar j τ (lkIn c n (c.rho n) (.frz od (.dK us))).h = .ok (.ref n) (lkIn c n (c.rho n) (.frz od (.dK us))).h := by
        unfold mVar
        rw [q1]
        rfl
      rw [mv]
      intro c1 u N1 e1 x1
      have hd : c1.H (c.rho n) = some (.frz od (.dK us)) := (N1.zz _ (.inr rfl)).trans upd_same
      have hr : c1.rho n = c.rho n := N1.mv.same n (by simpa [lkIn] using hn)
      cases x1 with
      | ref hn1 =>
        refine ⟨c.rho n, od, by rw [hr], .inl ⟨us, hd, ?_⟩⟩
        have yy : RVd G c1 kvs us := (y.mono M).mono N1.mv
        refine (lc_go (W := W) (J := Itk (c.rho n) od us) (Q := fun v H' => H' (c.rho n) = some (.frz od (.dK us)) ∧ Q v (upd H' (c.rho n) (.dK us))) (g := g) (me := me) (mt := mt) (σ := σ) (B := B) (L := L) (τ := τ) (xs := kvs.map fun p => keyV p.1) (c1 := c1) vs N1.rel (s1.nxt N1) ?_ ?_ : tLc (fun σ H R => R (Itk (c.rho n) od us) H) (tGe G B vs g) (tIt G B W0 mt) (tI G B W0 me) vs σ c1.H _)
        · refine ⟨fun H => H (c.rho n) = some (.frz od (.dK us)), fun i H x H' => H' = H ∧ ∃ k v, us[i]? = some (k, v) ∧ x = kV k, ?_, fun c' _ hz => ?_, fun c' i x H'' v M2 r2 hv hy => ?_⟩
          · have hl : us.length = kvs.length := y.length.symm
            refine ⟨fun i H hi g => ⟨g, by simpa [hl] using hi⟩, fun H g => ⟨g, by simp [hl]⟩, fun i H x H' _ _ z => z⟩
          · show c'.H (c.rho n) = _
            rw [hz _ (by rw [N1.z]; exact .inr rfl)]
            exact hd
          · obtain ⟨rfl, k, w, e2, rfl⟩ := hy
            refine ⟨.refl r2, ?_⟩
            obtain ⟨a1, a2⟩ := rvd_keyn yy i
            rw [e2] at a1
            rw [List.getElem?_map] at hv
            cases e3 : kvs[i]? with
            | none => rw [e3] at hv; cases hv
            | some p =>
              rw [e3] at hv a1
              simp only [Option.map_some, Option.some.injEq] at hv a1
              subst hv
              have kk := a2 p e3
              subst a1
              cases hp : p.1 with
              | inl i => exact .int
              | inr z => rw [hp] at kk; exact .str kk
        · have e1 : c1.h = c.h.set n none := e1
          rw [e1]
          revert p
          cases q : lcL g mt me (wipeA τ vs) (kvs.map fun p => keyV p.1) [] (c.h.set n none) with
          | stuck => exact fun p => p.elim
          | exc _ _ _ => exact fun p => p.elim
          | ok v h' =>
            intro p c2 u2 N2 e2 x2
            have N12 := N1.trans N2
            obtain ⟨N3, Mx⟩ := lkOut_nxt (O' := .dK us) rl q2 N12 fun c3 M3 e3 => ⟨us, e3, y.mono M3⟩
            refine ⟨(N12.zz _ (.inr rfl)).trans upd_same, p _ _ N3 ?_ (x2.mw Mx)⟩
            show c2.h.set n _ = _
            rw [e2]
    · exact p.elim
  · exact p.elim
theorem ie_lcK {elt tg : Expr} {ifs : List Expr} {scope : Scope} (j : Nat) (own : List (Str × Nat)) {g : MG} (hN : X.N.Nodup) (ok : BlkOk X.N X.env.scope scope own)
    (hg : ∀ (s : Shared) (H : Hp) (C : Addr) (cl : List (Str × Addr)) (fp : List Addr), IGe G B (own.map (·.2)) (X.blk s H scope (compEnvC scope cl C X.env) fp) tg g) (ht : ∀ (s : Shared) (H : Hp) (C : Addr) (cl : List (Str × Addr)) (fp : List Addr), PTs (X.blk s H scope (compEnvC scope cl C X.env) fp) ifs (tIt G B W0 mt))
    (he : ∀ (s : Shared) (H : Hp) (C : Addr) (cl : List (Str × Addr)) (fp : List Addr), IE G B W0 (X.blk s H scope (compEnvC scope cl C X.env) fp) elt me) (hj : X.N[j]? = some x := by rfl) (hv : Vis X.env.scope x := by first | exact Or.inl rfl | exact Or.inr (Or.inl rfl) | exact Or.inr (Or.inr rfl)) (hd : (x == ("__debug__" : Str)) = false := by decide) (hcd : (x == ("__classdict__" : Str)) = false := by decide) (hc : X.calm = true := by rfl) (hs : ∀ y, foldedSetIterable (.Name x p) X.env y = pure y := by intro _; rfl) :
    IE G B W X (.ListComp elt [⟨tg, .Name x p, ifs, 0⟩] scope pos) (mLcK j (own.map (·.2)) g mt me) :=
  PE.imp (pe_lock (pe_lc hc hN (pi_keys (ie_var (W := W) (G := G) (B := B) j hj hv hd hcd)) ok hg ht he hs)) fun _ _ _ t => lcK_ok _ t
end
end PI
/-! PIow: o[k] = v and len(o) by an own class's __setitem__, __len__. -/
namespace PI
open PySem PySem.Spec PyProof.Rows L2 ClX
section
variable {G : Gx} {B : Bx} {zs : Addr → Prop} {W : WX} {X : Cx} {c c' : Cfg} {L : List Addr} {τ : AS} {σ : SL} {pos pos' p apos cpos : Pos} {e o a b : Expr} {es : List Expr} {m n mo me mi : ME} {ma mk : MA} {mt : MT} {x s : Str} {i : Nat} {vs : List Nat}
def fOwnS3 (kc : Nat) (f : FN) (v w : AV) (τ : AS) : AV → AH → SRes := fun k h => match fldsOf w h with
  | some (k', _) => if k' = kc then (f [w, k, v] h).bindS τ fun _ h => .nx τ h else .stuck
  | none => .stuck
def fOwnS2 (kc : Nat) (f : FN) (mi : ME) (v : AV) (τ : AS) : AV → AH → SRes := fun w h => (mi τ h).bindS τ (fOwnS3 kc f v w τ)
def fOwnS1 (kc : Nat) (f : FN) (mo mi : ME) (τ : AS) : AV → AH → SRes := fun v h => (mo τ h).bindS τ (fOwnS2 kc f mi v τ)
/-- o[k] = v by o's own __setitem__ -/
def sOwnSet (kc : Nat) (f : FN) (mo mi me : ME) : MS := fun τ h => (me τ h).bindS τ (fOwnS1 kc f mo mi τ)
@[simp] theorem sOwnSet_ev {kc : Nat} {f : FN} {h : AH} : sOwnSet kc f mo mi me τ h = (me τ h).bindS τ (fOwnS1 kc f mo mi τ) := rfl
@[simp] theorem fOwnS1_ev {kc : Nat} {f : FN} {v : AV} {h : AH} : fOwnS1 kc f mo mi τ v h = (mo τ h).bindS τ (fOwnS2 kc f mi v τ) := rfl
@[simp] theorem fOwnS2_ev {kc : Nat} {f : FN} {v w : AV} {h : AH} : fOwnS2 kc f mi v τ w h = (mi τ h).bindS τ (fOwnS3 kc f v w τ) := rfl
@[simp] theorem fOwnS3_ev {kc : Nat} {f : FN} {v w k : AV} {h : AH} : fOwnS3 kc f v w τ k h = match fldsOf w h with
  | some (k', _) => if k' = kc then (f [w, k, v] h).bindS τ fun _ h => .nx τ h else .stuck
  | none => .stuck := rfl
theorem is_ownset {kc k : Nat} {g : Addr} {fd : FuncData} {ps : List Str} {fn : FN} (O : OwnS X.K (G.ca kc) "__setitem__" g) (F : FnOk X.prog X.w X.K X.mg X.base (L2.CX X.prog X.w) k g fd ps (spF G 3 fn)) (hr : Room k X.A) (tk : Takes X W) (hb : Binds X.K fd ps [])
    (he : IE G B W X e me) (ho : IE G B W X o mo) (hi : IE G B W X a mi) (hs : swapsWith e (some (.Subscript o a pos')) pos.line X.env = pure false := by rfl) : IS G B zs W X (.Assign [.Subscript o a pos'] e pos) (sOwnSet kc (chk 3 fn) mo mi me) := by
  refine ⟨fun pins s σ H D I ⟨c, τ, L, eH, rl, ow, s', q⟩ => ?_⟩
  have h : tI G B W me σ H (fun x H1 => tI G B W mo σ H1 (fun y H2 => tI G B W mi σ H2 (fun z H3 => ∃ (c3 : Cfg) (v w j : AV), c3.H = H3 ∧ Rel G c3 ∧ RV G c3 v x ∧ RV G c3 w y ∧ RV G c3 j z ∧ Own zs L c3 ∧ RS G B c3 L τ σ ∧ PostS G B zs L c3 W D (fOwnS3 kc (chk 3 fn) v w τ j c3.h)))) :=
    ⟨c, τ, L, eH, rl, s', (PostS.bindS (R := RV G) ow s' q).imp fun u H1 ⟨c1, v, e1, N1, x1, p1⟩ => ⟨c1, τ, L, e1, N1.rel, s'.nxt N1, (PostS.bindS (R := RV G) (ow.nxt N1) (s'.nxt N1) p1).imp fun u2 H2 ⟨c2, w, e2, N2, x2, p2⟩ =>
      ⟨c2, τ, L, e2, N2.rel, (s'.nxt N1).nxt N2, (PostS.bindS (R := RV G) ((ow.nxt N1).nxt N2) ((s'.nxt N1).nxt N2) p2).imp fun u3 H3 ⟨c3, j, e3, N3, x3, p3⟩ => ⟨c3, v, w, j, e3, N3.rel, (x1.mono N2.mv).mono N3.mv, x2.mono N3.mv, x3, ((ow.nxt N1).nxt N2).nxt N3, ((s'.nxt N1).nxt N2).nxt N3, p3⟩⟩⟩⟩
  refine wpAny_Assign_Subscript (thn (he.run pins s σ H _ I h) fun r s1 ⟨xv, H1, I1, rv, q1⟩ => thn (ho.run pins s1 σ H1 _ I1 q1) fun u s2 ⟨xo, H2, I2, rx, q2⟩ => thn (hi.run pins s2 σ H2 _ I2 q2) fun iv s3 ⟨xk, H3, I3, ry, c3, va, wa, ka, e3, r3, x1, x2, x3, ow3, s3', p3⟩ => ?_) hs
  subst e3
  unfold fOwnS3 at p3
  cases qf : fldsOf wa c3.h with
  | none => rw [qf] at p3; exact p3.elim
  | some kf =>
    obtain ⟨k', fs⟩ := kf
    rw [qf] at p3
    simp only at p3
    by_cases hk : k' = kc
    · rw [if_pos hk] at p3
      subst hk
      obtain ⟨pp, dx, uf, rfl, ep, xf⟩ := inst_at r3 x2 qf
      obtain rfl : u = Value.ref pp := rx
      obtain ⟨mA, J, _⟩ := ins_get I3.hok ep
      obtain ⟨od, J, _⟩ := J.look
      obtain ⟨mm, hF⟩ := I3.fr
      have pp3 : Post G (RV G) c3 (fun k d H' => W k d σ H') (fun _ H4 => D.nx σ H4) (chk 3 fn [wa, ka, va] c3.h) :=
        (PostS.bindS (R := RV G) ow3 s3' p3).imp fun u4 H4 ⟨c4, v4, e4, N4, x4, p4⟩ => by
          subst e4
          exact p4 c4 L σ (.refl N4.rel (ow3.nxt N4)) rfl (s3'.nxt N4)
      exact PySem.W.ksp_setItem hF I3.ok.mod.kin J O.sq O.at_ O.fn (thn (own_run (us := [.ref pp, iv, r]) (vs := [.ref pp, xk, xv]) F hr I3.env0 tk hb I3 (.cons rfl (.cons ry (.cons rv .nil))) (sp_of r3 (.cons x2 (.cons x3 (.cons x1 .nil))) rfl pp3)) fun u4 s4 ⟨z, H4, I4, rz, q4⟩ => ⟨σ, H4, I4, q4⟩)
    · rw [if_neg hk] at p3; exact p3.elim
theorem own_w {A : Around} {k N : Nat} {g : Addr} {fd : FuncData} {ps : List Str} {fn : FN} {pins : List (Addr × Obj)} {s : Shared} {Qb : Value → Shared → Prop} {us : List Value} {vs : List AV} {ws : List V} {E : Value → Shared → Prop} (F : FnOk X.prog X.w X.K X.mg X.base (L2.CX X.prog X.w) k g fd ps (spF G N fn)) (hr : Room k A) (e0 : Env0 X.prog X.w X.K X.mg X.base A X.stack s c.H) (hb : Binds X.K fd ps []) (I : Inv X pins σ c.H s) (r : Vals ws us) (rl : Rel G c) (xs : RVs G c vs ws) (hl : vs.length = N)
    {v : AV} {h' : AH} (e2 : fn vs c.h = .ok v h') (K : ∀ u z s' c', Nxt G c c' → c'.h = h' → Inv X pins σ c'.H s' → RV G c' v z → RelV z u → Qb u s') : wpAny (model X.prog X.w) A (call (.ref g) us) Qb E s := by
  have hsp : spF G N fn ws c.H (fun u H' => ∃ c', Nxt G c c' ∧ c'.h = h' ∧ c'.H = H' ∧ RV G c' v u) (fun _ _ _ => False) := sp_of rl xs hl (by rw [e2]; intro c' u N1 e1 x1; exact ⟨c', N1, e1, rfl, x1⟩)
  have hl2 : (us ++ []).length = ps.length := by
    rw [List.append_nil, ← r.length]
    exact F.len _ _ _ _ hsp
  have hb2 := hb s us I.kIn hl2
  rw [List.append_nil] at hb2
  refine wpAny_call (codeAny_mono (F.run A X.stack s c.H ⟨us, []⟩ us ws _ (fun _ _ _ => False) hr e0 hb2 r hsp) fun r s' hq => ?_)
  cases r with
  | error e => exact (cx_false hq).elim
  | ok fl =>
    cases fl with
    | ret u =>
      obtain ⟨z, H', I', rz, c', N1, e1, eH, ez⟩ := I.after hq
      subst eH
      exact K u z s' c' N1 e1 I' ez rz
    | next => exact False.elim hq
    | brk => exact False.elim hq
    | cont => exact False.elim hq
/-! len(o) -/
def kLenI (kc : Nat) (f : FN) (vs : List AV) (h : AH) : Option (AV × AH) := match vs with
  | [v] => match fldsOf v h with
    | some (k', _) => if k' = kc then (match f [v] h with
      | .ok (.int n) h' => if 0 ≤ n ∧ n < 2 ^ 62 then some (.int n, h') else none
      | _ => none) else none
    | none => none
  | _ => none
@[simp] theorem kLenI_ev {kc : Nat} {f : FN} {v : AV} {h : AH} : kLenI kc f [v] h = match fldsOf v h with
    | some (k', _) => if k' = kc then (match f [v] h with
      | .ok (.int n) h' => if 0 ≤ n ∧ n < 2 ^ 62 then some (.int n, h') else none
      | _ => none) else none
    | none => none := rfl
def rLenI (G : Gx) (kc : Nat) (fn : FN) : List V → Hp → VK → Prop := fun xs H Q => ∃ (c : Cfg) (vs : List AV), c.H = H ∧ Rel G c ∧ RVs G c vs xs ∧ PostO G c Q (kLenI kc fn vs c.h)
theorem ao_lenI {kc : Nat} {fn : FN} : AOL G (kLenI kc fn) (rLenI G kc fn) := fun c vs us Q r x p => ⟨c, vs, rfl, r, x, p⟩
theorem call_lenI {kc k : Nat} {f : Addr} {fd : FuncData} {ps : List Str} {fn : FN} (O : OwnS X.K (G.ca kc) "__len__" f) (F : FnOk X.prog X.w X.K X.mg X.base (L2.CX X.prog X.w) k f fd ps (spF G 1 fn)) (hr : Room (k + 1) X.A) (hb : Binds X.K fd ps []) : CallR X (.builtin "len") (rLenI G kc (chk 1 fn)) := by
  intro pins s σ H xs us Q I r h
  obtain ⟨c, vs, rfl, rl, x, p⟩ := h
  unfold kLenI at p
  split at p
  · rename_i v
    cases x with
    | cons x xr =>
      cases xr
      obtain ⟨u2, rfl, rx⟩ := vals1 r
      cases q1 : fldsOf v c.h with
      | none => rw [q1] at p; exact p.elim
      | some kf =>
        obtain ⟨k', fs⟩ := kf
        rw [q1] at p
        simp only at p
        by_cases hk : k' = kc
        · rw [if_pos hk] at p
          subst hk
          obtain ⟨pp, dx, uf, rfl, ep, xf⟩ := inst_at rl x q1
          obtain rfl : u2 = Value.ref pp := rx
          obtain ⟨mA, J, _⟩ := ins_get I.hok ep
          obtain ⟨od, J, _⟩ := J.look
          obtain ⟨mm, hF⟩ := I.fr
          split at p
          · rename_i z h' e2
            by_cases hz : 0 ≤ z ∧ z < 2 ^ 62
            · rw [if_pos hz] at p
              refine PySem.W.len_K hF I.ok.mod.kin J O.at_ O.fn (own_w (us := [.ref pp]) (ws := [.ref pp]) (vs := [v]) F hr.in1 I.env0.in1 hb I (.cons rfl .nil) rl (.cons x .nil) rfl e2 fun u w s' cc N1 e1 I' ex ru => ?_)
              cases ex
              obtain ⟨t, rfl⟩ := ru
              exact ⟨⟨hz.1, by have := hz.2; omega⟩, .int z, cc.H, I'.tok _, ⟨_, rfl⟩, p cc _ N1 e1 .int⟩
            · rw [if_neg hz] at p; exact p.elim
          · exact p.elim
        · rw [if_neg hk] at p; exact p.elim
  · exact p.elim
end
end PI
/-! PItm: two except clauses, each with a name. -/
namespace PI
open PySem PySem.Spec PyProof.Rows L2 ClX
/-- the clauses with a name, one after the other -/
def wAsL (K : PySem.W.Frag) (Wout : WX) (D : Ends) : List (Value × Nat × (Addr → Value → Option Addr → TS)) → WX
  | [] => Wout
  | (c, i, ts) :: r => wAs K c i ts (wAsL K Wout D r) D
inductive HdsA (X : Cx) : List ExceptHandler → List (Value × Nat × (Addr → Value → Option Addr → TS)) → Prop
  | nil : HdsA X [] []
  | cons {x n : Str} {c : Value} {i : Nat} {ts : Addr → Value → Option Addr → TS} {b₀ : Stmt} {suite : List Stmt} {np pos' : Pos} {hds : List ExceptHandler} {l : List (Value × Nat × (Addr → Value → Option Addr → TS))} (hc : Names X x c) (hi : X.N[i]? = some n) (hln : X.env.kindOf n = some .local)
      (hsu : ∀ (a : Addr) (oe : Obj) (cls : Value) (d : Option Addr) (pn : List (Addr × Obj)), Zc cls d oe → (∃ vs, oe.data = .fields vs) → PSs (X.suite a ((a, oe) :: pn)) (b₀ :: suite) (ts a cls d)) (r : HdsA X hds l) :
      HdsA X (.ExceptHandler (some (.Name x np)) (some n) (b₀ :: suite) pos' :: hds) ((c, i, ts) :: l)
section
variable {X : Cx} {body : List Stmt} {h₀ : ExceptHandler} {hds : List ExceptHandler} {l : List (Value × Nat × (Addr → Value → Option Addr → TS))} {pos : Pos} {tb : WX → TS} {Wout : WX}
theorem ps_try_asL (hs : X.stack = X.env :: X.outer) (hf : X.env.frame = some X.env.locals) (hN : X.N.Nodup) (tk : Takes X Wout)
    (hb : ∀ (W : WX) (pn : List (Addr × Obj)) (xe : Value → Shared → Prop), Takes (X.tr pn xe) W → PassesOwn (model X.prog X.w) X.A X.env xe → PSs (X.tr pn xe) body (tb W))
    (hh : HdsA X (h₀ :: hds) l) : PS X (.Try body (h₀ :: hds) [] [] pos) (fun D σ H => tb (wAsL X.K Wout D l) D σ H) := by
  refine ⟨fun pins s σ H D I h => ?_⟩
  have ok := I.ok
  have hfr : X.A.frames = some (X.env :: X.outer) := by rw [ok.frames, hs]
  refine wpAny_Try_except ?_
  refine wpAny_mono ((hb (wAsL X.K Wout D l) (X.pn ++ pins) (fun e s₁ => wpAny (model X.prog X.w) X.A (noteFrame e X.env) (fun _ s₂ => wpAny (model X.prog X.w) X.A (setFlight e none) (fun _ s₃ =>
    wpAny (model X.prog X.w) X.A (handleBy e X.env (h₀ :: hds)) (SP X pins D) X.xe s₃) X.xe s₂) X.xe s₁) (fun u s' xx => ?_) PassesOwn.looking).run [] s σ H D (I.toTry _) h) (fun f s1 hsp => ?_) (fun e s1 he => he)
  · obtain ⟨a, B, sI, pins', σ', H', cls, d, rfl, J', nb, up, sky, na, os, ag, w⟩ := xx
    have J : Inv X pins σ' H' sI := J'.ofTry ok
    have sky' : Sky B (X.env :: X.outer) a (Zc cls d) X.env.locals s'.heap := by rw [← hs]; exact sky
    show wpAny (model X.prog X.w) X.A (noteFrame (.ref a) X.env) _ _ _
    refine Sky.land Zc.steady hfr hf sky' fun h3 fl3 up3 => ?_
    have J3 : Inv X pins σ' H' { s' with heap := h3 } := J.landed nb fl3.1 (up.trans up3) os ag
    obtain ⟨oe3, vs3, he3, hz3, hd3⟩ := fl3.there
    have notFr : ∀ {h : Heap} {o : Obj} {vs : Array Value}, h.FunFrames B (X.env :: X.outer) → h.get? a = some o → o.data = .fields vs → a ∉ frs (X.env :: X.outer) := fun {h o vs} ff e dd hm => by
      obtain ⟨_, o', e', hnf⟩ := ff.mem hm
      rw [e] at e'; cases e'
      exact hnf _ dd
    have nfr := notFr fl3.2.2.1 he3 hd3
    have nL : a ≠ X.env.locals := fun z => nfr (List.mem_filterMap.mpr ⟨X.env, List.mem_cons_self, by rw [hf, z]⟩)
    have nF : a ∉ X.fs := fun hm => by
      obtain ⟨e, he, q⟩ := List.mem_filterMap.mp hm
      exact nfr (List.mem_filterMap.mpr ⟨e, List.mem_cons_of_mem _ he, q⟩)
    have S3 := J3.suite he3 hd3 na nL nF
    have go : ∀ {hds' : List ExceptHandler} {l' : List (Value × Nat × (Addr → Value → Option Addr → TS))}, HdsA X hds' l' → wAsL X.K Wout D l' cls d σ' H' →
        wpAny (model X.prog X.w) X.A (handleBy (.ref a) X.env hds') (SP X pins D) X.xe { s' with heap := h3 } := by
      intro hds' l' hk
      induction hk with
      | nil =>
        intro w
        refine wpAny_handleBy_nil ?_
        obtain ⟨k1, k2, k3, oe, vs, T, oT, ts', he, hz, hd, h1, hr⟩ := id fl3
        unfold PySem.passOn
        refine wpAny_bind (wpAny_field he hd h1 ?_)
        rw [if_neg (show ¬ ((Value.ref T == Value.none) = true) from by simp)]
        have fin : wpAny (model X.prog X.w) X.A (setFlight (.ref a) X.env.frame) (fun _ s4 => wpAny (model X.prog X.w) X.A (throw (.ref a) : Sem Flow) (SP X pins D) X.xe s4) X.xe { s' with heap := h3 } := by
          rw [hf]
          refine HandSPX.setFlight_upZ fl3 fun h4 hh4 up4 => wpAny_throw (tk _ _ ?_)
          exact ⟨a, B, sI, pins, σ', H', cls, d, rfl, J, nb, (up.trans up3).trans up4, .inr (.inr (by rw [hs]; exact hh4)), na, os, ag, w⟩
        first
          | exact wpAny_bind (wpAny_pure (wpAny_bind fin))
          | exact wpAny_bind fin
      | @cons x n c i ts b₀ suite np pos' hds2 l2 hc hi hln hsu r ih =>
        intro w
        obtain ⟨b, hb1, hyes, hno⟩ := w
        have hloc : Loc X.env.scope n := .inl hln
        refine wpAny_handleBy_cons (codeAny_handlers_test ?_) (by intro q; cases q)
        have LT : PySem.W.Looks (model X.prog X.w) h3 (typeOf (.ref a)) cls := fun A Q E s k q => wpAny_typeOf_ref (k _ _ he3) (by rw [hz3.1]; exact q)
        have LM := PySem.W.exm_one (M := model X.prog X.w) (J3.kIn) LT hb1
        have test : ∀ {Q : Value → Shared → Prop} {E : Value → Shared → Prop}, Q c { s' with heap := h3 } → wpAny (model X.prog X.w) (X.A.mark (some (.ref a))) (eval (.Name x np) X.env) Q E { s' with heap := h3 } := fun {Q E} q => by
          obtain ⟨hg, hdbg, hm | ⟨hm, hv, hnn⟩⟩ := hc
          · exact ld_glob (X := X.suite a ((a, oe3) :: (X.pn ++ pins))) S3 hg hm q hdbg
          · exact ld_blt (X := X.suite a ((a, oe3) :: (X.pn ++ pins))) S3 hg hm hv q hnn hdbg
        refine test (LM.here ?_)
        cases b with
        | true =>
          refine codeAny_handlers_suite_as ?_
          refine HandSPX.lands_againZ fl3 fun h4 fl4 up4 => ?_
          have J4 : Inv X pins σ' H' { s' with heap := h4 } := J.landed nb fl4.1 ((up.trans up3).trans up4) os ag
          obtain ⟨oe4, vs4, he4, hz4, hd4⟩ := fl4.there
          have S4 := J4.suite he4 hd4 na nL nF
          refine store_ok (X := X.suite a ((a, oe4) :: (X.pn ++ pins))) (v := .ref a) S4 hN hi hloc rfl (fun s5 S5 => ?_) (.inr hln)
          refine wpAny_mono ((hsu a oe4 cls d (X.pn ++ pins) hz4 ⟨_, hd4⟩).run [] s5 _ H' _ S5 (hyes rfl a na)) (fun f s6 hsp => ?_) (fun _ _ z => False.elim z)
          have end_ : ∀ {σ6 : L2.St} {H6 : Hp} {Q : Shared → Prop}, Inv (X.suite a ((a, oe4) :: (X.pn ++ pins))) [] σ6 H6 s6 → (∀ s7, Inv X pins (σ6.set i none) H6 s7 → Q s7) →
              wpAny (model X.prog X.w) X.A (do bindName X.env n .none; unbindBehindTheSuite X.env n pos') (fun _ s7 => Q s7) X.xe s6 := fun {σ6 H6 Q} S6 hq => gone_ok (S6.unsuite ok) hN hi hln hq
          cases f with
          | next =>
            obtain ⟨σ6, H6, S6, q6⟩ := hsp
            exact end_ S6 fun s7 J7 => ⟨_, _, J7, q6⟩
          | brk =>
            obtain ⟨σ6, H6, S6, q6⟩ := hsp
            exact end_ S6 fun s7 J7 => ⟨_, _, J7, q6⟩
          | cont =>
            obtain ⟨σ6, H6, S6, q6⟩ := hsp
            exact end_ S6 fun s7 J7 => ⟨_, _, J7, q6⟩
          | ret u =>
            obtain ⟨v6, σ6, H6, S6, r6, q6⟩ := hsp
            exact end_ S6 fun s7 J7 => ⟨_, _, _, J7, r6, q6⟩
        | false =>
          show wpAny _ X.A (handleBy (.ref a) X.env hds2) _ _ _
          exact ih (hno rfl)
    exact go hh w
  · cases f with
    | next =>
      obtain ⟨σ', H', J', q⟩ := hsp
      exact wpAny_execs_nil ⟨σ', H', J'.ofTry ok, q⟩
    | brk =>
      obtain ⟨σ', H', J', q⟩ := hsp
      exact ⟨σ', H', J'.ofTry ok, q⟩
    | cont =>
      obtain ⟨σ', H', J', q⟩ := hsp
      exact ⟨σ', H', J'.ofTry ok, q⟩
    | ret u =>
      obtain ⟨v, σ', H', J', r, q⟩ := hsp
      exact ⟨v, σ', H', J'.ofTry ok, r, q⟩
end
section
variable {G : Gx} {B : Bx} {zs : Addr → Prop} {W : WX} {X : Cx} {c c' : Cfg} {L : List Addr} {τ : AS} {σ : SL} {pos pos1 pos2 np1 np2 : Pos} {mb ms ms1 ms2 : MS} {mt mt1 mt2 : XC → Option Bool} {cv cv1 cv2 : Value} {n1 n2 x1 x2 : Str} {b1 b2 : Stmt} {body su1 su2 : List Stmt}
theorem try_post {D : Ends} {h : AH} (i : Nat) (hmt : ∀ y b, mt y = some b → PySem.W.exmOne X.K (G.xv y) cv = some b) (p : PostS G B zs L c W D (sTryAs mb mt i ms τ h)) :
    PostS G B zs L c (wAs X.K cv i (fun a cls d => tS G (B.exc a cls d) zs (fun _ _ _ _ => False) ms) W D) D (mb τ h) := by
  unfold sTryAs at p
  revert p
  cases mb τ h with
  | nx τ h => exact fun p => p
  | rt τ h => exact fun p => p
  | bk τ h => exact fun p => p
  | ct τ h => exact fun p => p
  | stuck => exact fun p => p
  | exc y fs τ1 h1 =>
    intro p c1 L1 σ1 k d S e1 x1 s1
    simp only at p
    obtain rfl : k = G.xv y := x1.1
    cases q : mt y with
    | none => rw [q] at p; exact p.elim
    | some b =>
      rw [q] at p
      refine ⟨b, hmt y b q, fun eb a ha => ?_, fun eb => ?_⟩
      · subst eb
        simp only at p
        by_cases hh : noE τ1 = true ∧ i < τ1.length
        · rw [if_pos hh] at p
          obtain ⟨L2, S2, s2⟩ := RS.exc (a := a) S.own S.rel s1 hh.2 hh.1 x1
          refine ⟨c1, _, L2, rfl, S2.rel, S2.own, s2, ?_⟩
          subst e1
          have p2 := PostS.trans (S.trans S2) p
          revert p2
          unfold suiteEnd
          have back : ∀ {c3 : Cfg} {L3 : List Addr} {τ3 : AS} {σ3 : SL}, Stp G zs L2 c1 L3 c3 → RS G (B.exc a (G.xv y) d) c3 L3 τ3 σ3 → noE (τ3.set i none) = true → ∃ L4, Stp G zs L2 c1 L4 c3 ∧ RS G B c3 L4 (τ3.set i none) (σ3.set i none) := fun {c3 L3 τ3 σ3} S3 s3 hn => by
            obtain ⟨L4, S4, s4⟩ := RS.gone S3.own S3.rel s3 i none
            exact ⟨L4, S3.trans S4, s4.ex hn rfl⟩
          cases ms (τ1.set i (some (.mE y fs))) c1.h with
          | nx τ3 h3 =>
            intro p2 c3 L3 σ3 S3 e3 s3
            simp only at p2
            by_cases hn : noE (τ3.set i none) = true
            · rw [if_pos hn] at p2
              obtain ⟨L4, S4, s4⟩ := back S3 s3 hn
              exact p2 c3 L4 _ S4 e3 s4
            · rw [if_neg hn] at p2; exact p2.elim
          | bk τ3 h3 =>
            intro p2 c3 L3 σ3 S3 e3 s3
            simp only at p2
            by_cases hn : noE (τ3.set i none) = true
            · rw [if_pos hn] at p2
              obtain ⟨L4, S4, s4⟩ := back S3 s3 hn
              exact p2 c3 L4 _ S4 e3 s4
            · rw [if_neg hn] at p2; exact p2.elim
          | ct τ3 h3 =>
            intro p2 c3 L3 σ3 S3 e3 s3
            simp only at p2
            by_cases hn : noE (τ3.set i none) = true
            · rw [if_pos hn] at p2
              obtain ⟨L4, S4, s4⟩ := back S3 s3 hn
              exact p2 c3 L4 _ S4 e3 s4
            · rw [if_neg hn] at p2; exact p2.elim
          | rt v h3 => exact fun p2 c3 L3 u S3 e3 x3 => p2 c3 L3 u S3 e3 x3
          | exc _ _ _ _ => exact fun p2 => p2.elim
          | stuck => exact fun p2 => p2.elim
        · rw [if_neg hh] at p
          exact p.elim
      · subst eb
        exact p c1 L1 σ1 _ d S e1 x1 s1
theorem is_try_as2 (i j : Nat) (hN : X.N.Nodup) (tk : Takes X W) (hc1 : Names X x1 cv1) (hmt1 : ∀ y b, mt1 y = some b → PySem.W.exmOne X.K (G.xv y) cv1 = some b) (hc2 : Names X x2 cv2) (hmt2 : ∀ y b, mt2 y = some b → PySem.W.exmOne X.K (G.xv y) cv2 = some b)
    (hb : ∀ (W : WX) (pn : List (Addr × Obj)) (xe : Value → Shared → Prop), Takes (X.tr pn xe) W → PassesOwn (model X.prog X.w) X.A X.env xe → ISs G B zs W (X.tr pn xe) body mb)
    (hsu1 : ∀ (a : Addr) (oe : Obj) (cls : Value) (d : Option Addr) (pn : List (Addr × Obj)), Zc cls d oe → (∃ vs, oe.data = .fields vs) → ISs G (B.exc a cls d) zs (fun _ _ _ _ => False) (X.suite a ((a, oe) :: pn)) (b1 :: su1) ms1)
    (hsu2 : ∀ (a : Addr) (oe : Obj) (cls : Value) (d : Option Addr) (pn : List (Addr × Obj)), Zc cls d oe → (∃ vs, oe.data = .fields vs) → ISs G (B.exc a cls d) zs (fun _ _ _ _ => False) (X.suite a ((a, oe) :: pn)) (b2 :: su2) ms2)
    (hs : X.stack = X.env :: X.outer := by rfl) (hf : X.env.frame = some X.env.locals := by rfl) (hi : X.N[i]? = some n1 := by rfl) (hln1 : X.env.kindOf n1 = some .local := by rfl) (hj : X.N[j]? = some n2 := by rfl) (hln2 : X.env.kindOf n2 = some .local := by rfl) :
    IS G B zs W X (.Try body [.ExceptHandler (some (.Name x1 np1)) (some n1) (b1 :: su1) pos1, .ExceptHandler (some (.Name x2 np2)) (some n2) (b2 :: su2) pos2] [] [] pos) (sTryAs (sTryAs mb mt1 i ms1) mt2 j ms2) := by
  refine PS.imp (ps_try_asL (tb := fun W => tS G B zs W mb) (l := [(cv1, i, fun a cls d => tS G (B.exc a cls d) zs (fun _ _ _ _ => False) ms1), (cv2, j, fun a cls d => tS G (B.exc a cls d) zs (fun _ _ _ _ => False) ms2)]) hs hf hN tk hb (.cons hc1 hi hln1 hsu1 (.cons hc2 hj hln2 hsu2 .nil))) fun D σ H ⟨c, τ, L, eH, r, o, s, p⟩ => ?_
  exact ⟨c, τ, L, eH, r, o, s, try_post i hmt1 (try_post j hmt2 p)⟩
end
end PI
namespace Wk11
open PySem PySem.Spec PyProof.Rows L2 ClX PI
def mt1 : XC → Option Bool := mtOf [(1, true), (3, false)]
def mt3 : XC → Option Bool := mtOf [(1, false), (3, true)]
def kt : AT → AT → Option Bool := ktOf (ktF [((12, 13), false)]) (ktG [12]) kth0
def ktE : AT → AT → Option Bool := ktOf (ktF [((12, 1), false), ((12, 3), false)]) ktg0 (ktH [])
def l0_bag : MS := (sSet 3 (mBin kMod (mL kInt (mCons (mBin kAdd (mBin kAdd (mBin kMul (mVar 3) (mC (.int 40692))) (mBin kMod (mL kInt (mCons (mVar 5) mNil)) (mC (.int 2147483249)))) (mBin kMul (mC (.int 977)) (mVar 4))) mNil)) (mC (.int 2147483399))))
def b_bag : MS := (sSeq (sSet 2 (mIf (mB (mBin kLt (mVar 1) (mL kLen (mCons (mVar 0) mNil)))) (mBin kIx (mVar 0) (mVar 1)) (mC (.int 0))))
  (sSeq (sSet 3 (mBin kAdd (mBin kMul (mC (.int 5171)) (mVar 1)) (mC (.int 617))))
  (sSeq (sFor (gT 2 (gsCons (gN 4) (gsCons (gN 5) gsNil))) (mEnumA (mCons (mSl (mVar 0) none (some (mC (.int 63)))) mNil)) l0_bag)
  (sRet (mL kLst (mCons (mIf (mB (mBin kGe (mL kAbs (mCons (mVar 2) mNil)) (mBin kPow (mC (.int 10)) (mC (.int 18))))) (mL kAbs (mCons (mVar 2) mNil)) (mC (.int 0))) (mCons (mVar 3) mNil)))))))
def m_bag : FN := runF 6 b_bag
def c_bag : FN := fun vs h => chk 2 m_bag (vs ++ []) h
def b_take : MS := (sSeq (sIf (mB (mBin kGt (mBin kIx (mVar 0) (mC (.int 0))) (mC (.int 0)))) (sSeq (sSet 2 (mBin kMod (mL kInt (mCons (mBin kIx (mVar 0) (mC (.int 0))) mNil)) (mVar 1)))
  (sSeq (sSetIx (mVar 0) (mC (.int 0)) (mBin kFdiv (mBin kIx (mVar 0) (mC (.int 0))) (mVar 1)))
  (sRet (mVar 2)))) sSkip)
  (sSeq (sSetIx (mVar 0) (mC (.int 1)) (mBin kMod (mL kInt (mCons (mBin kAdd (mBin kMul (mBin kIx (mVar 0) (mC (.int 1))) (mC (.int 48271))) (mC (.int 70001))) mNil)) (mC (.int 2147483629))))
  (sRet (mBin kMod (mBin kFdiv (mBin kMod (mL kInt (mCons (mBin kMul (mBin kFdiv (mBin kIx (mVar 0) (mC (.int 1))) (mC (.int 13))) (mC (.int 39373))) mNil)) (mC (.int 2147483647))) (mC (.int 32))) (mVar 1)))))
def m_take : FN := runF 3 b_take
def c_take : FN := fun vs h => chk 2 m_take (vs ++ []) h
def b_of : MS := (sRet (mBin kIx (mVar 1) (mCall c_take (mCons (mVar 0) (mCons (mL kLen (mCons (mVar 1) mNil)) mNil)))))
def m_of : FN := runF 2 b_of
def c_of : FN := fun vs h => chk 2 m_of (vs ++ []) h
def l0_names : MS := (sSet 6 (mBin kAdd (mVar 6) (mCall c_of (mCons (mVar 0) (mCons (mL kFl (mCons (mC (.str "a")) (mCons (mC (.str "z")) (mCons (mC (.str "q")) (mCons (mC (.str "m")) mNil))))) mNil)))))
def l1_names : MS := (sSeq (sSet 7 (mBMl kPopR (mVar 4) (mCons (mCall c_take (mCons (mVar 0) (mCons (mL kLen (mCons (mVar 4) mNil)) mNil))) mNil)))
  (sExpr (mBMl kAppR (mVar 5) (mCons (mIf (mB (mVar 2)) (mBin kAdd (mVar 7) (mVar 6)) (mBin kAdd (mVar 6) (mVar 7))) mNil))))
def b_names : MS := (sSeq (sPar3 4 5 6 (mCons (mL kListR (mCons (mC (.str "abcdefghijklmnopqrstuvwxyz")) mNil)) (mCons (mL kLst mNil) (mCons (mC (.str "")) mNil))))
  (sSeq (sSet 2 (mBin kEq (mCall c_take (mCons (mVar 0) (mCons (mC (.int 2)) mNil))) (mC (.int 0))))
  (sSeq (sFor (gN 3) (mRng1 (mCons (mCall c_take (mCons (mVar 0) (mCons (mC (.int 8)) mNil))) mNil)) l0_names)
  (sSeq (sFor (gN 3) (mRng1 (mCons (mVar 1) mNil)) l1_names)
  (sRet (mKill (mVar 5)))))))
def m_names : FN := runF 8 b_names
def c_names : FN := fun vs h => chk 2 m_names (vs ++ []) h
def b_keys : MS := (sSeq (sSet 2 (mCall c_names (mCons (mVar 0) (mCons (mBin kAdd (mC (.int 1)) (mCall c_take (mCons (mVar 0) (mCons (mC (.int 2)) mNil)))) mNil))))
  (sRet (mLc [3] (gE 3) (mIt itL (mCall c_names (mCons (mVar 0) (mCons (mVar 1) mNil)))) mYes (mBin kAdd (mBin kAdd (mCall c_of (mCons (mVar 0) (mCons (mVar 2) mNil))) (mC (.str "/"))) (mVar 3)))))
def m_keys : FN := runF 4 b_keys
def c_keys : FN := fun vs h => chk 2 m_keys (vs ++ []) h
def l0_owners : MS := (sIf (mB (mBin kEq (mCall c_take (mCons (mVar 0) (mCons (mC (.int 3)) mNil))) (mC (.int 0)))) (sExpr (mBMl kAppR (mVar 2) (mCons (mBin kIx (mM1 kPart (mVar 3) (mC (.str "/"))) (mC (.int 0))) mNil))) sSkip)
def b_owners : MS := (sSeq (sSet 2 (mL kLst mNil))
  (sSeq (sFor (gN 3) (mIt itL (mVar 1)) l0_owners)
  (sRet (mVar 2))))
def m_owners : FN := runF 4 b_owners
def c_owners : FN := fun vs h => chk 2 m_owners (vs ++ []) h
def b_integer : MS := (sSeq (sSet 1 (mCall c_take (mCons (mVar 0) (mCons (mC (.int 7)) mNil))))
  (sSeq (sIf (mB (mBin kLt (mVar 1) (mC (.int 5)))) (sRet (mBin kIx (mL kFl (mCons (mC (.int 0)) (mCons (mC (.int 1)) (mCons (mUn kNeg (mC (.int 1))) (mCons (mBin kSub (mBin kPow (mC (.int 10)) (mC (.int 30))) (mC (.int 1))) (mCons (mBin kSub (mC (.int 1)) (mBin kPow (mC (.int 10)) (mC (.int 30)))) mNil)))))) (mVar 1))) sSkip)
  (sSeq (sSet 2 (mCall c_take (mCons (mVar 0) (mCons (mBin kPow (mC (.int 10)) (mC (.int 30))) mNil))))
  (sRet (mIf (mB (mBin kEq (mVar 1) (mC (.int 5)))) (mVar 2) (mBin kSub (mC (.int 0)) (mVar 2)))))))
def m_integer : FN := runF 3 b_integer
def c_integer : FN := fun vs h => chk 1 m_integer (vs ++ []) h
def l0_rows : MS := (sIf (mB (mBin kEq (mCall c_take (mCons (mVar 0) (mCons (mC (.int 2)) mNil))) (mC (.int 0)))) (sExpr (mBMl kAppR (mVar 2) (mCons (mL kTup (mCons (mVar 3) (mCons (mCall c_integer (mCons (mVar 0) mNil)) mNil))) mNil))) sSkip)
def b_rows : MS := (sSeq (sSet 2 (mL kLst mNil))
  (sSeq (sFor (gN 3) (mIt itL (mVar 1)) l0_rows)
  (sRet (mVar 2))))
def m_rows : FN := runF 4 b_rows
def c_rows : FN := fun vs h => chk 2 m_rows (vs ++ []) h
def l0_is_name : MS := (sIf (mB (mBin (kInS true) (mVar 1) (mC (.str "abcdefghijklmnopqrstuvwxyz")))) (sRet (mC (.bl false))) sSkip)
def b_is_name : MS := (sSeq (sIf (mTOr (mTNot (mB (mL (kIsi kt) (mCons (mVar 0) (mCons (mC (.ty "str")) mNil))))) (mTNot (mB (mChain kLe kLe (mC (.int 1)) (mL kLen (mCons (mVar 0) mNil)) (mC (.int 8)))))) (sRet (mC (.bl false))) sSkip)
  (sSeq (sFor (gN 1) (mIt itS (mVar 0)) l0_is_name)
  (sRet (mC (.bl true)))))
def m_is_name : FN := runF 2 b_is_name
def c_is_name : FN := fun vs h => chk 1 m_is_name (vs ++ []) h
def b_is_key : MS := (sSeq (sIf (mTNot (mB (mL (kIsi kt) (mCons (mVar 0) (mCons (mC (.ty "str")) mNil))))) (sRet (mC (.bl false))) sSkip)
  (sSeq (sAsg (gT 3 (gsCons (gN 1) (gsCons (gN 2) (gsCons (gN 3) gsNil)))) (mM1 kPart (mVar 0) (mC (.str "/"))))
  (sRet (mAndV (mBin kEq (mVar 2) (mC (.str "/"))) (mAndV (mCall c_is_name (mCons (mVar 1) mNil)) (mCall c_is_name (mCons (mVar 3) mNil)))))))
def m_is_key : FN := runF 4 b_is_key
def c_is_key : FN := fun vs h => chk 1 m_is_key (vs ++ []) h
def b_is_integer : MS := (sRet (mAndV (mL (kIsi kt) (mCons (mVar 0) (mCons (mC (.ty "int")) mNil))) (mAndV (mNotV (mL (kIsi kt) (mCons (mVar 0) (mCons (mC (.ty "bool")) mNil)))) (mChain kLe kLe (mUn kNeg (mC (.int 999999999999999999999999999999))) (mVar 0) (mC (.int 999999999999999999999999999999))))))
def m_is_integer : FN := runF 1 b_is_integer
def c_is_integer : FN := fun vs h => chk 1 m_is_integer (vs ++ []) h
def l0_checked_rows : MS := (sSeq (sIf (mTOr (mTNot (mB (mCall c_is_key (mCons (mVar 2) mNil)))) (mB (mBin (kInDict false) (mVar 2) (mVar 1)))) (sRaise (mExc (.own 1) [0, 1] (mCons (mC (.str "key")) (mCons (mVar 2) mNil)))) sSkip)
  (sSeq (sIf (mTNot (mB (mCall c_is_integer (mCons (mVar 3) mNil)))) (sRaise (mExc (.own 1) [0, 1] (mCons (mC (.str "value")) (mCons (mVar 3) mNil)))) sSkip)
  (sDPutM (mVar 1) (mVar 2) (mVar 3))))
def b_checked_rows : MS := (sSeq (sSet 1 mDNew)
  (sSeq (sForD 100 (gT 2 (gsCons (gN 2) (gsCons (gN 3) gsNil))) (mSrc srcL (mVar 0)) l0_checked_rows)
  (sRet (mVar 1))))
def m_checked_rows : FN := runF 4 b_checked_rows
def c_checked_rows : FN := fun vs h => chk 1 m_checked_rows (vs ++ []) h
def b_owner_of : MS := (sSeq (sIf (mTNot (mB (mCall c_is_key (mCons (mVar 0) mNil)))) (sRaise (mExc (.own 1) [0, 1] (mCons (mC (.str "key")) (mCons (mVar 0) mNil)))) sSkip)
  (sRet (mBin kIx (mM1 kPart (mVar 0) (mC (.str "/"))) (mC (.int 0)))))
def m_owner_of : FN := runF 1 b_owner_of
def c_owner_of : FN := fun vs h => chk 1 m_owner_of (vs ++ []) h
def l0_checked_owners : MS := (sSeq (sIf (mTNot (mB (mCall c_is_name (mCons (mVar 3) mNil)))) (sRaise (mExc (.own 1) [0, 1] (mCons (mC (.str "owner")) (mCons (mVar 3) mNil)))) sSkip)
  (sDPutM (mVar 2) (mVar 3) (mC (.bl true))))
def b_checked_owners : MS := (sSeq (sSet 2 (mL kDictR (mCons (mLcK 0 [4] (gE 4) mYes (mL kTup (mCons (mCall c_owner_of (mCons (mVar 4) mNil)) (mCons (mC (.bl true)) mNil)))) mNil)))
  (sSeq (sForD 100 (gN 3) (mSrc srcL (mVar 1)) l0_checked_owners)
  (sRet (mVar 2))))
def m_checked_owners : FN := runF 5 b_checked_owners
def c_checked_owners : FN := fun vs h => chk 2 m_checked_owners (vs ++ []) h
def b_Store__init : MS := (sSeq (sIf (mB (mL (kIsi kt) (mCons (mVar 1) (mCons (mC (.cls 12)) mNil)))) (sPar 3 4 (mCons (mL kDictR (mCons (mFld [12, 13] 42 (mVar 1)) mNil)) (mCons (mL kDictR (mCons (mFld [12, 13] 43 (mVar 1)) mNil)) mNil))) (sSeq (sSet 3 (mCall c_checked_rows (mCons (mVar 1) mNil)))
  (sSet 4 (mCall c_checked_owners (mCons (mVar 3) (mCons (mVar 2) mNil))))))
  (sSeq (sOwnF [13] 42 (mVar 3))
  (sOwnF [13] 43 (mVar 4))))
def m_Store__init : FI := runI 5 13 b_Store__init
def c_Store__init : FI := fun vs h => chkI 3 m_Store__init (vs ++ []) h
def b_Store_all_owners : MS := (sRet (mL kSortF (mCons (mL kListDF (mCons (mFld [12, 13] 43 (mVar 0)) mNil)) mNil)))
def m_Store_all_owners : FN := runF 1 b_Store_all_owners
def c_Store_all_owners : FN := fun vs h => chk 1 m_Store_all_owners (vs ++ []) h
def b_Store_all_rows : MS := (sRet (mLc [1] (gE 1) (mIt itL (mL kSortF (mCons (mL kListDF (mCons (mFld [12, 13] 42 (mVar 0)) mNil)) mNil))) mYes (mL kTup (mCons (mVar 1) (mCons (mBin kDGet (mFld [12, 13] 42 (mVar 0)) (mVar 1)) mNil)))))
def m_Store_all_rows : FN := runF 2 b_Store_all_rows
def c_Store_all_rows : FN := fun vs h => chk 1 m_Store_all_rows (vs ++ []) h
def b_odd : MS := (sRet (mCall c_of (mCons (mVar 0) (mCons (mL kFl (mCons (mC .non) (mCons (mC (.bl true)) (mCons (mC (.bl false)) (mCons (mC (.int 0)) (mCons (mC (.int 1)) (mCons (mUn kNeg (mC (.int 1))) (mCons (mBin kPow (mC (.int 10)) (mC (.int 39))) (mCons (mC (.str "")) (mCons (mC (.str " ")) (mCons (mC (.str "Set")) (mCons (mC (.str "set ")) (mCons (mC (.str "a b")) (mCons (mL kFl mNil) (mCons (mL kFl (mCons (mC (.str "set")) mNil)) (mCons (mL kTup mNil) (mCons (mL kTup (mCons (mC (.str "a")) mNil)) (mCons (mC (.str "9/9")) (mCons (mC (.str "a/")) (mCons (mC (.str "/a")) (mCons (mC (.str "a/b/c")) (mCons (mC (.str "abcdefghi")) (mCons (mBin kMul (mC (.str "x")) (mC (.int 400))) mNil))))))))))))))))))))))) mNil))))
def m_odd : FN := runF 1 b_odd
def c_odd : FN := fun vs h => chk 1 m_odd (vs ++ []) h
def b_told : MS := (sSeq (sSet 2 (mC .non))
  (sSeq (sTryAs (sExpr (mMkN 13 2 0 (chkI 3 m_Store__init) [0, 1] [.tup [], .tup []] (mCons (mVar 0) (mCons (mVar 1) mNil)) mNil)) mt1 3 (sSet 2 (mL kFl (mCons (mExF [1] 3 0) (mCons (mExF [1] 3 1) mNil)))))
  (sRet (mVar 2))))
def m_told : FN := runF 4 b_told
def c_told : FN := fun vs h => chk 2 m_told (vs ++ []) h
def b_is_value : MS := (sRet (mAndV (mL (kIsi kt) (mCons (mVar 0) (mCons (mC (.ty "int")) mNil))) (mAndV (mNotV (mL (kIsi kt) (mCons (mVar 0) (mCons (mC (.ty "bool")) mNil)))) (mBin kLt (mL kAbs (mCons (mVar 0) mNil)) (mBin kPow (mC (.int 10)) (mC (.int 30)))))))
def m_is_value : FN := runF 1 b_is_value
def c_is_value : FN := fun vs h => chk 1 m_is_value (vs ++ []) h
def l0_due : MS := (sSeq (sIf (mTOr (mB (mBin (kInH true) (mVar 5) (mVar 2))) (mB (mBin (kInH false) (mVar 5) (mVar 3)))) (sRet (mL kFl (mCons (mC (.str "key")) (mCons (mVar 5) mNil)))) sSkip)
  (sSeq (sIf (mTNot (mB (mCall c_is_value (mCons (mVar 6) mNil)))) (sRet (mL kFl (mCons (mC (.str "value")) (mCons (mVar 6) mNil)))) sSkip)
  (sExpr (mBMl kAppR (mVar 3) (mCons (mVar 5) mNil)))))
def l1_due : MS := (sIf (mB (mBin (kInH true) (mVar 4) (mLc [5] (gE 5) (mIt itL (mVar 2)) mYes (mBin kIx (mM1 kPart (mVar 5) (mC (.str "/"))) (mC (.int 0)))))) (sRet (mL kFl (mCons (mC (.str "owner")) (mCons (mVar 4) mNil)))) sSkip)
def b_due : MS := (sSeq (sSet 3 (mL kLst mNil))
  (sSeq (sForD 100 (gT 2 (gsCons (gN 5) (gsCons (gN 6) gsNil))) (mSrc srcL (mVar 0)) l0_due)
  (sSeq (sForD 100 (gN 4) (mSrc srcL (mVar 1)) l1_due)
  (sRet (mC .non)))))
def m_due : FN := runF 7 b_due
def c_due : FN := fun vs h => chk 3 m_due (vs ++ []) h
def b_Store__setitem : MS := (sSeq (sIf (mTNot (mB (mCall c_is_key (mCons (mVar 1) mNil)))) (sRaise (mExc (.own 1) [0, 1] (mCons (mC (.str "key")) (mCons (mVar 1) mNil)))) sSkip)
  (sSeq (sIf (mTNot (mB (mCall c_is_integer (mCons (mVar 2) mNil)))) (sRaise (mExc (.own 1) [0, 1] (mCons (mC (.str "value")) (mCons (mVar 2) mNil)))) sSkip)
  (sSeq (sDPutM (mFld [12, 13] 42 (mVar 0)) (mVar 1) (mVar 2))
  (sDPutM (mFld [12, 13] 43 (mVar 0)) (mCall c_owner_of (mCons (mVar 1) mNil)) (mC (.bl true))))))
def m_Store__setitem : FN := runF 3 b_Store__setitem
def c_Store__setitem : FN := fun vs h => chk 3 m_Store__setitem (vs ++ []) h
def b_set : MS := (sSeq (sSet 3 (mC .non))
  (sSeq (sTryAs (sOwnSet 13 (chk 3 m_Store__setitem) (mVar 0) (mVar 1) (mVar 2)) mt1 4 (sSet 3 (mL kFl (mCons (mExF [1] 4 0) (mCons (mExF [1] 4 1) mNil)))))
  (sRet (mVar 3))))
def m_set : FN := runF 5 b_set
def c_set : FN := fun vs h => chk 3 m_set (vs ++ []) h
def b_Store_has_owner : MS := (sRet (mAndV (mCall c_is_name (mCons (mVar 1) mNil)) (mBin (kInDict false) (mVar 1) (mFld [12, 13] 43 (mVar 0)))))
def m_Store_has_owner : FN := runF 2 b_Store_has_owner
def c_Store_has_owner : FN := fun vs h => chk 2 m_Store_has_owner (vs ++ []) h
def b_Store_row : MS := (sRet (mIf (mTAnd (mB (mCall c_is_key (mCons (mVar 1) mNil))) (mB (mBin (kInDict false) (mVar 1) (mFld [12, 13] 42 (mVar 0))))) (mL kTup (mCons (mBin kDGet (mFld [12, 13] 42 (mVar 0)) (mVar 1)) mNil)) (mL kTup mNil)))
def m_Store_row : FN := runF 2 b_Store_row
def c_Store_row : FN := fun vs h => chk 2 m_Store_row (vs ++ []) h
def b_Store__contains : MS := (sRet (mAndV (mCall c_is_key (mCons (mVar 1) mNil)) (mBin (kInDict false) (mVar 1) (mFld [12, 13] 42 (mVar 0)))))
def m_Store__contains : FN := runF 2 b_Store__contains
def c_Store__contains : FN := fun vs h => chk 2 m_Store__contains (vs ++ []) h
def b_Store__getitem : MS := (sSeq (sIf (mTOr (mTNot (mB (mCall c_is_key (mCons (mVar 1) mNil)))) (mB (mBin (kInDict true) (mVar 1) (mFld [12, 13] 42 (mVar 0))))) (sRaise (mExc (.own 3) [4] (mCons (mVar 1) mNil))) sSkip)
  (sRet (mBin kDGet (mFld [12, 13] 42 (mVar 0)) (mVar 1))))
def m_Store__getitem : FN := runF 2 b_Store__getitem
def c_Store__getitem : FN := fun vs h => chk 2 m_Store__getitem (vs ++ []) h
def b_Store_drop : MS := (sSeq (sIf (mTOr (mTNot (mB (mCall c_is_key (mCons (mVar 1) mNil)))) (mB (mBin (kInDict true) (mVar 1) (mFld [12, 13] 42 (mVar 0))))) (sRaise (mExc (.own 3) [4] (mCons (mVar 1) mNil))) sSkip)
  (sDDelM (mFld [12, 13] 42 (mVar 0)) (mVar 1)))
def m_Store_drop : FN := runF 2 b_Store_drop
def c_Store_drop : FN := fun vs h => chk 2 m_Store_drop (vs ++ []) h
def b_Store_bear : MS := (sSeq (sIf (mTNot (mB (mCall c_is_name (mCons (mVar 1) mNil)))) (sRaise (mExc (.own 1) [0, 1] (mCons (mC (.str "owner")) (mCons (mVar 1) mNil)))) sSkip)
  (sSeq (sSet 2 (mBin (kInDict true) (mVar 1) (mFld [12, 13] 43 (mVar 0))))
  (sSeq (sDPutM (mFld [12, 13] 43 (mVar 0)) (mVar 1) (mC (.bl true)))
  (sRet (mVar 2)))))
def m_Store_bear : FN := runF 3 b_Store_bear
def c_Store_bear : FN := fun vs h => chk 2 m_Store_bear (vs ++ []) h
def b_gone : MS := (sSeq (sSet 3 (mC .non))
  (sSeq (sTryAs (sTryAs (sIf (mB (mBin kEqH (mVar 2) (mC (.int 0)))) (sSet 3 (mL kFl (mCons (mC (.str "row")) (mCons (mOwnIx 13 (chk 2 m_Store__getitem) (mVar 0) (mVar 1)) mNil)))) (sIf (mB (mBin kEqH (mVar 2) (mC (.int 1)))) (sExpr (mMet 13 52 c_Store_drop (mVar 0) (mCons (mVar 1) mNil))) (sSet 3 (mL kFl (mCons (mC (.str "borne")) (mCons (mMet 13 51 c_Store_bear (mVar 0) (mCons (mVar 1) mNil)) mNil)))))) mt3 4 (sSet 3 (mL kFl (mCons (mC (.str "missing")) (mCons (mExF [3] 4 4) mNil))))) mt1 4 (sSet 3 (mL kFl (mCons (mExF [1] 4 0) (mCons (mExF [1] 4 1) mNil)))))
  (sRet (mVar 3))))
def m_gone : FN := runF 5 b_gone
def c_gone : FN := fun vs h => chk 3 m_gone (vs ++ []) h
def b_in_use : MS := (sSeq (sSet 4 (mCall c_odd (mCons (mVar 0) mNil)))
  (sSeq (sSet 5 (mCall c_of (mCons (mVar 0) (mCons (mL kFl (mCons (mBin kPow (mC (.int 10)) (mC (.int 30))) (mCons (mUn kNeg (mBin kPow (mC (.int 10)) (mC (.int 30)))) (mCons (mC .non) (mCons (mC (.bl true)) (mCons (mC (.str "1")) (mCons (mL kTup (mCons (mC (.int 1)) mNil)) mNil))))))) mNil))))
  (sSeq (sIf (mB (mBin kNeH (mCall c_set (mCons (mVar 1) (mCons (mVar 4) (mCons (mVar 5) mNil)))) (mL kFl (mCons (mC (.str "key")) (mCons (mVar 4) mNil))))) (sRet (mC (.bl false))) sSkip)
  (sSeq (sIf (mB (mBin kNeH (mCall c_set (mCons (mVar 1) (mCons (mBin kIx (mVar 2) (mC (.int 0))) (mCons (mVar 5) mNil)))) (mL kFl (mCons (mC (.str "value")) (mCons (mVar 5) mNil))))) (sRet (mC (.bl false))) sSkip)
  (sSeq (sIf (mTOr (mB (mBin (kOwnIn 13 false (chk 2 m_Store__contains)) (mVar 4) (mVar 1))) (mTOr (mB (mBin kNeH (mMet 13 45 c_Store_row (mVar 1) (mCons (mVar 4) mNil)) (mL kTup mNil))) (mB (mBin (kIsB true) (mMet 13 46 c_Store_has_owner (mVar 1) (mCons (mVar 4) mNil)) (mC (.bl false)))))) (sRet (mC (.bl false))) sSkip)
  (sSeq (sIf (mB (mBin (kIsB true) (mMet 13 46 c_Store_has_owner (mVar 1) (mCons (mBin kIx (mVar 2) (mC (.int 0))) mNil)) (mC (.bl false)))) (sRet (mC (.bl false))) sSkip)
  (sSeq (sIf (mTOr (mB (mBin kNeH (mCall c_gone (mCons (mVar 1) (mCons (mVar 4) (mCons (mC (.int 0)) mNil)))) (mL kFl (mCons (mC (.str "missing")) (mCons (mVar 4) mNil))))) (mB (mBin kNeH (mCall c_gone (mCons (mVar 1) (mCons (mVar 4) (mCons (mC (.int 1)) mNil)))) (mL kFl (mCons (mC (.str "missing")) (mCons (mVar 4) mNil)))))) (sRet (mC (.bl false))) sSkip)
  (sSeq (sIf (mTOr (mB (mBin kNeH (mCall c_gone (mCons (mVar 1) (mCons (mVar 4) (mCons (mC (.int 2)) mNil)))) (mL kFl (mCons (mC (.str "owner")) (mCons (mVar 4) mNil))))) (mB (mBin kNeH (mL kFl (mCons (mMet 13 47 c_Store_all_rows (mVar 1) mNil) (mCons (mMet 13 48 c_Store_all_owners (mVar 1) mNil) mNil))) (mVar 3)))) (sRet (mC (.bl false))) sSkip)
  (sSeq (sIf (mTOr (mB (mBin kNotN (mCall c_set (mCons (mVar 1) (mCons (mBin kIx (mVar 2) (mC (.int 0))) (mCons (mBin kSub (mBin kPow (mC (.int 10)) (mC (.int 30))) (mC (.int 1))) mNil)))) (mC .non))) (mB (mBin kNeH (mOwnIx 13 (chk 2 m_Store__getitem) (mVar 1) (mBin kIx (mVar 2) (mC (.int 0)))) (mBin kSub (mBin kPow (mC (.int 10)) (mC (.int 30))) (mC (.int 1)))))) (sRet (mC (.bl false))) sSkip)
  (sRet (mC (.bl true))))))))))))
def m_in_use : FN := runF 6 b_in_use
def c_in_use : FN := fun vs h => chk 4 m_in_use (vs ++ []) h
def q1_law : MS := (sSetIx (mVar 7) (mVar 11) (mCall c_of (mCons (mVar 2) (mCons (mL kFl (mCons (mL kTup (mCons (mVar 10) (mCons (mVar 14) mNil))) (mCons (mL kTup (mCons (mVar 13) (mCons (mVar 10) mNil))) (mCons (mVar 12) mNil)))) mNil))))
def q2_law : MS := (sSeq (sSet 12 (mL kTup (mCons (mBin kIx (mBin kIx (mVar 7) (mCall c_take (mCons (mVar 2) (mCons (mL kLen (mCons (mVar 7) mNil)) mNil)))) (mC (.int 0))) (mCons (mVar 14) mNil)))) q1_law)
def q3_law : MS := (sSeq (sAsg (gT 2 (gsCons (gN 13) (gsCons (gN 14) gsNil))) (mBin kIx (mVar 7) (mVar 11))) q2_law)
def q4_law : MS := (sIf (mB (mBin kNeH (mCall c_told (mCons (mVar 7) (mCons (mVar 8) mNil))) (mCall c_due (mCons (mVar 7) (mCons (mVar 8) (mCons (mVar 3) mNil)))))) (sRet (mC (.bl false))) sSkip)
def q5_law : MS := (sSeq (sIf (mTAnd (mB (mBin kNeH (mVar 7) (mL kFl mNil))) (mB (mBin kEqH (mVar 9) (mC (.int 0))))) (sSeq (sSet 11 (mCall c_take (mCons (mVar 2) (mCons (mL kLen (mCons (mVar 7) mNil)) mNil)))) q3_law) (sIf (mB (mBin kNeH (mVar 8) (mL kFl mNil))) (sSetIx (mVar 8) (mCall c_take (mCons (mVar 2) (mCons (mL kLen (mCons (mVar 8) mNil)) mNil))) (mCall c_of (mCons (mVar 2) (mCons (mL kFl (mCons (mVar 10) (mCons (mBin kIx (mVar 3) (mC (.int 0))) mNil))) mNil)))) sSkip)) q4_law)
def l0_law : MS := (sSeq (sPar 9 10 (mCons (mCall c_take (mCons (mVar 2) (mCons (mC (.int 2)) mNil))) (mCons (mCall c_of (mCons (mVar 2) (mCons (mL kFl (mCons (mCall c_odd (mCons (mVar 2) mNil)) (mCons (mBin kPow (mC (.int 10)) (mC (.int 30))) (mCons (mUn kNeg (mBin kPow (mC (.int 10)) (mC (.int 30)))) (mCons (mC (.str "1")) mNil))))) mNil))) mNil))) q5_law)
def q6_law : MS := (sIf (mTNot (mB (mCall c_in_use (mCons (mVar 2) (mCons (mVar 4) (mCons (mVar 3) (mCons (mVar 5) mNil))))))) (sRet (mC (.bl false))) sSkip)
def q7_law : MS := (sSeq (sFor (gN 6) (mRng1 (mCons (mC (.int 3)) mNil)) l0_law) q6_law)
def q8_law : MS := (sSeq (sSet 5 (mL kFl (mCons (mMet 13 47 c_Store_all_rows (mVar 4) mNil) (mCons (mMet 13 48 c_Store_all_owners (mVar 4) mNil) mNil)))) q7_law)
def q9_law : MS := (sSeq (sSet 4 (mMkN 13 2 0 (chkI 3 m_Store__init) [0, 1] [.tup [], .tup []] (mCons (mVar 7) (mCons (mVar 8) mNil)) mNil)) q8_law)
def q10_law : MS := (sSeq (sPar 7 8 (mCons (mCall c_rows (mCons (mVar 2) (mCons (mVar 3) mNil))) (mCons (mCall c_owners (mCons (mVar 2) (mCons (mVar 3) mNil))) mNil))) q9_law)
def q11_law : MS := (sSeq (sSet 3 (mCall c_keys (mCons (mVar 2) (mCons (mBin kAdd (mC (.int 2)) (mCall c_take (mCons (mVar 2) (mCons (mC (.int 5)) mNil)))) mNil)))) q10_law)
def l1_law : MS := (sSeq (sSet 2 (mCall c_bag (mCons (mVar 0) (mCons (mVar 1) mNil)))) q11_law)
def q12_law : MS := (sRet (mC (.bl true)))
def b_law : MS := (sSeq (sFor (gN 1) (mRng1 (mCons (mL kMax2 (mCons (mC (.int 1)) (mCons (mL kMin2 (mCons (mC (.int 8)) (mCons (mL kLen (mCons (mVar 0) mNil)) mNil))) mNil))) mNil)) l1_law) q12_law)
def m_law : FN := runF 15 b_law
def c_law : FN := fun vs h => chk 1 m_law (vs ++ []) h
end Wk11
/-! ### printed by gen.py for law k11 -/
namespace Wk11
open PySem PySem.Spec PyProof.Rows L2 ClX PI
def top (i : Nat) : Stmt := PySem.Challenge.pw_chunkedloads_k11_stores_refused.main.body.getD i (.Pass ⟨0, 0, 0, 0⟩)
abbrev st_bag : Stmt := top 19
abbrev st_take : Stmt := top 20
abbrev st_of : Stmt := top 21
abbrev st_names : Stmt := top 22
abbrev st_keys : Stmt := top 25
abbrev st_owners : Stmt := top 27
abbrev st_integer : Stmt := top 23
abbrev st_rows : Stmt := top 26
abbrev st_is_name : Stmt := top 8
abbrev st_is_key : Stmt := top 11
abbrev st_InvalidPart__init : Stmt := inClass (top 3) 0
abbrev st_is_integer : Stmt := top 12
abbrev st_checked_rows : Stmt := top 14
abbrev st_owner_of : Stmt := top 13
abbrev st_checked_owners : Stmt := top 15
abbrev st_Store__init : Stmt := inClass (top 17) 0
abbrev st_Store_all_owners : Stmt := inClass (top 17) 10
abbrev st_Store_all_rows : Stmt := inClass (top 17) 9
abbrev st_odd : Stmt := top 28
abbrev st_told : Stmt := top 29
abbrev st_is_value : Stmt := top 30
abbrev st_due : Stmt := top 31
abbrev st_Store__setitem : Stmt := inClass (top 17) 2
abbrev st_set : Stmt := top 32
abbrev st_Store_has_owner : Stmt := inClass (top 17) 8
abbrev st_Store_row : Stmt := inClass (top 17) 7
abbrev st_Store__contains : Stmt := inClass (top 17) 3
abbrev st_Missing__init : Stmt := inClass (top 4) 0
abbrev st_Store__getitem : Stmt := inClass (top 17) 1
abbrev st_Store_drop : Stmt := inClass (top 17) 14
abbrev st_Store_bear : Stmt := inClass (top 17) 13
abbrev st_gone : Stmt := top 33
abbrev st_in_use : Stmt := top 34
abbrev st_law : Stmt := top 35
def nms : List Str := (["part", "thing", "__init__", "line", "key", "word", "place", "reason", "places", "first", "state", "move", "there", "lacking", "read"] : List Str) ++ (["__call__", "__eq__", "__str__", "rules", "words", "maker", "writer", "of", "__getitem__", "__contains__", "__iter__", "__len__", "option", "value", "given"] : List Str) ++ (["owners", "notes", "doubles", "writes", "sums", "clash", "lost", "checks", "refused", "all_changes", "changes", "__or__", "kept", "born", "__setitem__"] : List Str) ++ (["row", "has_owner", "all_rows", "all_owners", "copy", "put", "bear", "drop", "batch", "home", "tried", "rows_before", "owners_before", "refusal", "__enter__"] : List Str) ++ (["__exit__", "write", "owner", "begun", "rows", "flat", "lines", "store", "parts", "sizes", "all_items", "found", "is_open", "take_owner", "take_row"] : List Str) ++ (["take", "book", "plan", "__ior__", "stores", "outcomes", "reports", "store_after", "known_rows", "known_owners", "planned", "refusals", "struck", "undone", "bears"] : List Str) ++ (["plans", "plan_deed", "write_of", "net_writes", "go_through", "written", "is_strict", "many", "strict", "looked_up", "finish", "do_all", "taken", "make_strict", "known_owner"] : List Str) ++ (["feed", "start", "rank", "keeps", "followed", "moves", "is_less", "load", "moved", "bad", "owned", "looked", "knows", "here", "unborn"] : List Str) ++ (["left", "late", "shown", "status", "refuse", "write_row", "frozen", "look", "sibling", "item", "forget", "promises", "most", "opened_chunks", "signs"] : List Str) ++ (["next_chunk", "flagged", "end", "kept_begin", "own", "opened", "gone", "let", "starts", "onward", "sight", "loader", "papers", "begins", "names"] : List Str) ++ (["sights", "roads", "is_state", "agrees", "leads", "begin", "state_of", "paper", "IS_RIGHT", "__bool__", "told", "trace", "cause", "example", "pool"] : List Str) ++ (["sets", "traces", "set_of", "least", "works", "lesser", "rule", "counted", "size", "load_chunk", "change_size"] : List Str)
theorem nms_nd : nms.Nodup := by decide +kernel
theorem nms_sz : ∀ x, x ∈ nms → x.cps.size < 50 := by decide +kernel
structure Txt (K : PySem.W.Frag) (w : World) (mg : Str → Option Value) (G : Gx) (fd : Nat → FuncData) : Prop where
  hK : K = G.K
  n0 : ("part" : Str) = G.nm 0
  n1 : ("thing" : Str) = G.nm 1
  n4 : ("key" : Str) = G.nm 4
  n42 : ("kept" : Str) = G.nm 42
  n43 : ("born" : Str) = G.nm 43
  n45 : ("row" : Str) = G.nm 45
  n46 : ("has_owner" : Str) = G.nm 46
  n47 : ("all_rows" : Str) = G.nm 47
  n48 : ("all_owners" : Str) = G.nm 48
  n51 : ("bear" : Str) = G.nm 51
  n52 : ("drop" : Str) = G.nm 52
  F0 : Fun K "_law_bag" "_law_bag" st_bag (G.fa 0) (fd 0)
  b0 : Binds K (fd 0) ["_law_script", "_law_at"] []
  m0 : mg "_law_bag" = some (.ref (G.fa 0))
  F1 : Fun K "_law_take" "_law_take" st_take (G.fa 1) (fd 1)
  b1 : Binds K (fd 1) ["_law_bag_here", "_law_many"] []
  m1 : mg "_law_take" = some (.ref (G.fa 1))
  F2 : Fun K "_law_of" "_law_of" st_of (G.fa 2) (fd 2)
  b2 : Binds K (fd 2) ["_law_bag_here", "_law_some"] []
  m2 : mg "_law_of" = some (.ref (G.fa 2))
  F3 : Fun K "_law_names" "_law_names" st_names (G.fa 3) (fd 3)
  b3 : Binds K (fd 3) ["_law_bag_here", "_law_many"] []
  m3 : mg "_law_names" = some (.ref (G.fa 3))
  F4 : Fun K "_law_keys" "_law_keys" st_keys (G.fa 4) (fd 4)
  b4 : Binds K (fd 4) ["_law_bag_here", "_law_many"] []
  m4 : mg "_law_keys" = some (.ref (G.fa 4))
  F5 : Fun K "_law_owners" "_law_owners" st_owners (G.fa 5) (fd 5)
  b5 : Binds K (fd 5) ["_law_bag_here", "_law_keys_here"] []
  m5 : mg "_law_owners" = some (.ref (G.fa 5))
  F6 : Fun K "_law_integer" "_law_integer" st_integer (G.fa 6) (fd 6)
  b6 : Binds K (fd 6) ["_law_bag_here"] []
  m6 : mg "_law_integer" = some (.ref (G.fa 6))
  F7 : Fun K "_law_rows" "_law_rows" st_rows (G.fa 7) (fd 7)
  b7 : Binds K (fd 7) ["_law_bag_here", "_law_keys_here"] []
  m7 : mg "_law_rows" = some (.ref (G.fa 7))
  F8 : Fun K "is_name" "is_name" st_is_name (G.fa 8) (fd 8)
  b8 : Binds K (fd 8) ["thing"] []
  m8 : mg "is_name" = some (.ref (G.fa 8))
  F9 : Fun K "is_key" "is_key" st_is_key (G.fa 9) (fd 9)
  b9 : Binds K (fd 9) ["thing"] []
  m9 : mg "is_key" = some (.ref (G.fa 9))
  F10 : Fun K "__init__" "InvalidPart.__init__" st_InvalidPart__init (G.fa 10) (fd 10)
  b10 : Binds K (fd 10) ["self", "part", "thing"] []
  F11 : Fun K "is_integer" "is_integer" st_is_integer (G.fa 11) (fd 11)
  b11 : Binds K (fd 11) ["thing"] []
  m11 : mg "is_integer" = some (.ref (G.fa 11))
  F12 : Fun K "checked_rows" "checked_rows" st_checked_rows (G.fa 12) (fd 12)
  b12 : Binds K (fd 12) ["rows"] []
  m12 : mg "checked_rows" = some (.ref (G.fa 12))
  F13 : Fun K "owner_of" "owner_of" st_owner_of (G.fa 13) (fd 13)
  b13 : Binds K (fd 13) ["key"] []
  m13 : mg "owner_of" = some (.ref (G.fa 13))
  F14 : Fun K "checked_owners" "checked_owners" st_checked_owners (G.fa 14) (fd 14)
  b14 : Binds K (fd 14) ["kept", "owners"] []
  m14 : mg "checked_owners" = some (.ref (G.fa 14))
  F15 : ∃ TE15_0 : Addr, ∃ TE15_1 : Addr, FunD K "__init__" "Store.__init__" (defArgs st_Store__init) (defBody st_Store__init) (defScope st_Store__init) ([V.ref TE15_0, V.ref TE15_1] : List V) [] (G.fa 15) (fd 15)
  kb15_0 : KBD G K (fd 15) ["self", "rows", "owners"] 3 [] (0 :: ([0, 1] : List Nat).map (· + 1)) [.tup [], .tup []]
  F16 : Fun K "all_owners" "Store.all_owners" st_Store_all_owners (G.fa 16) (fd 16)
  b16 : Binds K (fd 16) ["self"] []
  F17 : Fun K "all_rows" "Store.all_rows" st_Store_all_rows (G.fa 17) (fd 17)
  b17 : Binds K (fd 17) ["self"] []
  F18 : Fun K "_law_odd" "_law_odd" st_odd (G.fa 18) (fd 18)
  b18 : Binds K (fd 18) ["_law_bag_here"] []
  m18 : mg "_law_odd" = some (.ref (G.fa 18))
  F19 : Fun K "_law_told" "_law_told" st_told (G.fa 19) (fd 19)
  b19 : Binds K (fd 19) ["_law_rows_here", "_law_names_here"] []
  m19 : mg "_law_told" = some (.ref (G.fa 19))
  F20 : Fun K "_law_is_value" "_law_is_value" st_is_value (G.fa 20) (fd 20)
  b20 : Binds K (fd 20) ["_law_thing"] []
  m20 : mg "_law_is_value" = some (.ref (G.fa 20))
  F21 : Fun K "_law_due" "_law_due" st_due (G.fa 21) (fd 21)
  b21 : Binds K (fd 21) ["_law_rows_here", "_law_names_here", "_law_keys_here"] []
  m21 : mg "_law_due" = some (.ref (G.fa 21))
  F22 : Fun K "__setitem__" "Store.__setitem__" st_Store__setitem (G.fa 22) (fd 22)
  b22 : Binds K (fd 22) ["self", "key", "value"] []
  F23 : Fun K "_law_set" "_law_set" st_set (G.fa 23) (fd 23)
  b23 : Binds K (fd 23) ["_law_store", "_law_key", "_law_value_here"] []
  m23 : mg "_law_set" = some (.ref (G.fa 23))
  F24 : Fun K "has_owner" "Store.has_owner" st_Store_has_owner (G.fa 24) (fd 24)
  b24 : Binds K (fd 24) ["self", "name"] []
  F25 : Fun K "row" "Store.row" st_Store_row (G.fa 25) (fd 25)
  b25 : Binds K (fd 25) ["self", "key"] []
  F26 : Fun K "__contains__" "Store.__contains__" st_Store__contains (G.fa 26) (fd 26)
  b26 : Binds K (fd 26) ["self", "key"] []
  F27 : Fun K "__init__" "Missing.__init__" st_Missing__init (G.fa 27) (fd 27)
  b27 : Binds K (fd 27) ["self", "key"] []
  F28 : Fun K "__getitem__" "Store.__getitem__" st_Store__getitem (G.fa 28) (fd 28)
  b28 : Binds K (fd 28) ["self", "key"] []
  F29 : Fun K "drop" "Store.drop" st_Store_drop (G.fa 29) (fd 29)
  b29 : Binds K (fd 29) ["self", "key"] []
  F30 : Fun K "bear" "Store.bear" st_Store_bear (G.fa 30) (fd 30)
  b30 : Binds K (fd 30) ["self", "name"] []
  F31 : Fun K "_law_gone" "_law_gone" st_gone (G.fa 31) (fd 31)
  b31 : Binds K (fd 31) ["_law_store", "_law_key", "_law_way"] []
  m31 : mg "_law_gone" = some (.ref (G.fa 31))
  F32 : Fun K "_law_in_use" "_law_in_use" st_in_use (G.fa 32) (fd 32)
  b32 : Binds K (fd 32) ["_law_bag_here", "_law_store", "_law_keys_here", "_law_kept"] []
  m32 : mg "_law_in_use" = some (.ref (G.fa 32))
  F33 : Fun K "law" "law" st_law (G.fa 33) (fd 33)
  b33 : Binds K (fd 33) ["_law_script"] []
  m33 : mg "law" = some (.ref (G.fa 33))
  mc12 : mg "Content" = some (.ref (G.ca 12))
  mc13 : mg "Store" = some (.ref (G.ca 13))
  mc1 : mg "InvalidPart" = some (.ref (G.ca 1))
  mc3 : mg "Missing" = some (.ref (G.ca 3))
  z_abs : mg "abs" = none
  z_bool : mg "bool" = none
  z_dict : mg "dict" = none
  z_enumerate : mg "enumerate" = none
  z_int : mg "int" = none
  z_isinstance : mg "isinstance" = none
  z_len : mg "len" = none
  z_list : mg "list" = none
  z_max : mg "max" = none
  z_min : mg "min" = none
  z_range : mg "range" = none
  z_sorted : mg "sorted" = none
  z_str : mg "str" = none
  gc_GREATEST : ∃ w, mg "GREATEST" = some w ∧ L2.RelV (V.int (999999999999999999999999999999)) w
  gc_LETTERS : ∃ w, mg "LETTERS" = some w ∧ L2.RelV (V.str "abcdefghijklmnopqrstuvwxyz") w
  gc_MOST_SIGNS : ∃ w, mg "MOST_SIGNS" = some w ∧ L2.RelV (V.int (8)) w
  cl12 : Cls K (G.ca 12)
  cl13 : Cls K (G.ca 13)
  fo12_43 : FldOk G K 43 12
  fo12_42 : FldOk G K 42 12
  fo13_43 : FldOk G K 43 13
  fo13_42 : FldOk G K 42 13
  mk13 : Mk K (G.ca 13) (G.fa 15)
  me13_48 : Meth K (G.ca 13) "all_owners" (G.fa 16)
  me13_47 : Meth K (G.ca 13) "all_rows" (G.fa 17)
  me13_51 : Meth K (G.ca 13) "bear" (G.fa 30)
  me13_52 : Meth K (G.ca 13) "drop" (G.fa 29)
  me13_46 : Meth K (G.ca 13) "has_owner" (G.fa 24)
  me13_45 : Meth K (G.ca 13) "row" (G.fa 25)
  os13_contains : OwnS K (G.ca 13) "__contains__" (G.fa 26)
  os13_getitem : OwnS K (G.ca 13) "__getitem__" (G.fa 28)
  os13_setitem : OwnS K (G.ca 13) "__setitem__" (G.fa 22)
  oex1 : OexC K (G.ca 1)
  xi1 : PySem.W.findIn K (.ref (G.ca 1)) "__init__" = some (some (.ref (G.fa 10)))
  xt1 : PySem.W.typeIn K (.ref (G.fa 10)) = some (.type "function")
  xn1_0 : PySem.W.findIn K (.ref (G.ca 1)) "part" = some none
  xn1_1 : PySem.W.findIn K (.ref (G.ca 1)) "thing" = some none
  oex3 : OexC K (G.ca 3)
  xi3 : PySem.W.findIn K (.ref (G.ca 3)) "__init__" = some (some (.ref (G.fa 27)))
  xt3 : PySem.W.typeIn K (.ref (G.fa 27)) = some (.type "function")
  xn3_4 : PySem.W.findIn K (.ref (G.ca 3)) "key" = some none
  xf1_0 : XfOk G K 0 1
  xf1_1 : XfOk G K 1 1
  xf3_4 : XfOk G K 4 3
  mt1 : ∀ y b, mt1 y = some b → PySem.W.exmOne K (G.xv y) (.ref (G.ca 1)) = some b
  mt3 : ∀ y b, mt3 y = some b → PySem.W.exmOne K (G.xv y) (.ref (G.ca 3)) = some b
  kit : KitOk G K kt
  kitE : KitX2 G K ktE
section
variable {P : Program} {w : World} {K : PySem.W.Frag} {mg : Str → Option Value} {base : Heap} {G : Gx} {fd : Nat → FuncData}
theorem sc_bag : FnScope ["_law_script", "_law_at", "_law_cell", "_law_mixed", "_law_k", "_law_each"] ["_law_script", "_law_at"] (defScope st_bag) := ⟨rfl, rfl, rfl, by decide +kernel, rfl, by decide +kernel, by decide +kernel⟩
theorem ok_bag (T : Txt K w mg G fd) : FnOk P w K mg base (L2.CX P w) 1 (G.fa 0) (fd 0) ["_law_script", "_law_at"] (spF G 2 m_bag) :=
  ok_fn (B := ⟨0, .none, none, 0⟩) T.F0 sc_bag fun cdv A outer s H E zs hr tk => 
  (iss_cons (is_set 2 sc_bag.nd (ie_if (it_cmp op_lt (ao_cmp _) (ie_var 1) (ie_callB call_len (ao_len T.hK) rfl T.z_len (by rfl) (ia_cons (ie_var 0) ia_nil))) (ie_ix ix_seq (ao_ix T.hK) (ie_var 0) (ie_var 1)) ie_int))
  (iss_cons (is_set 3 sc_bag.nd (ie_op op_addA (ao_add T.hK) (ie_op op_mulA ao_mul ie_int (ie_var 1)) ie_int))
  (iss_cons (is_for (ms := l0_bag) (passes_of rfl) rfl (ii_enumA T.hK T.z_enumerate (ia_cons (ie_sl T.hK (ie_var 0) IO.non (IO.som ie_int)) ia_nil)) (ig_tup T.hK rfl (igs_cons (ig_name 4 sc_bag.nd) (igs_cons (ig_name 5 sc_bag.nd) igs_nil))) (iss_one (is_set 3 sc_bag.nd (ie_op op_mod ao_mod (ie_callTy call_int1 ao_int rfl T.z_int (by rfl) (ia_cons (ie_op op_addA (ao_add T.hK) (ie_op op_addA (ao_add T.hK) (ie_op op_mulA ao_mul (ie_var 3) ie_int) (ie_op op_mod ao_mod (ie_callTy call_int1 ao_int rfl T.z_int (by rfl) (ia_cons (ie_var 5) ia_nil)) ie_int)) (ie_op op_mulA ao_mul ie_int (ie_var 4))) ia_nil)) ie_int))))
  (iss_one (is_ret (ie_lst (ia_cons (ie_if (it_cmp op_ge (ao_cmp _) (ie_callB call_abs ao_abs rfl T.z_abs (by rfl) (ia_cons (ie_var 2) ia_nil)) (ie_op op_pow ao_pow ie_int ie_int)) (ie_callB call_abs ao_abs rfl T.z_abs (by rfl) (ia_cons (ie_var 2) ia_nil)) ie_int) (ia_cons (ie_var 3) ia_nil))))))))
theorem sc_take : FnScope ["_law_bag_here", "_law_many", "_law_digit"] ["_law_bag_here", "_law_many"] (defScope st_take) := ⟨rfl, rfl, rfl, by decide +kernel, rfl, by decide +kernel, by decide +kernel⟩
theorem ok_take (T : Txt K w mg G fd) : FnOk P w K mg base (L2.CX P w) 1 (G.fa 1) (fd 1) ["_law_bag_here", "_law_many"] (spF G 2 m_take) :=
  ok_fn (B := ⟨0, .none, none, 0⟩) T.F1 sc_take fun cdv A outer s H E zs hr tk => 
  (iss_cons (is_if (it_cmp op_gt (ao_cmp _) (ie_ix ix_seq (ao_ix T.hK) (ie_var 0) ie_int) ie_int) (iss_cons (is_set 2 sc_take.nd (ie_op op_mod ao_mod (ie_callTy call_int1 ao_int rfl T.z_int (by rfl) (ia_cons (ie_ix ix_seq (ao_ix T.hK) (ie_var 0) ie_int) ia_nil)) (ie_var 1)))
  (iss_cons (is_setix (ie_op op_fdivW ao_fdiv (ie_ix ix_seq (ao_ix T.hK) (ie_var 0) ie_int) (ie_var 1)) (ie_var 0) ie_int)
  (iss_one (is_ret (ie_var 2))))) iss_nil)
  (iss_cons (is_setix (ie_op op_mod ao_mod (ie_callTy call_int1 ao_int rfl T.z_int (by rfl) (ia_cons (ie_op op_addA (ao_add T.hK) (ie_op op_mulA ao_mul (ie_ix ix_seq (ao_ix T.hK) (ie_var 0) ie_int) ie_int) ie_int) ia_nil)) ie_int) (ie_var 0) ie_int)
  (iss_one (is_ret (ie_op op_mod ao_mod (ie_op op_fdivW ao_fdiv (ie_op op_mod ao_mod (ie_callTy call_int1 ao_int rfl T.z_int (by rfl) (ia_cons (ie_op op_mulA ao_mul (ie_op op_fdivW ao_fdiv (ie_ix ix_seq (ao_ix T.hK) (ie_var 0) ie_int) ie_int) ie_int) ia_nil)) ie_int) ie_int) (ie_var 1))))))
theorem sc_of : FnScope ["_law_bag_here", "_law_some"] ["_law_bag_here", "_law_some"] (defScope st_of) := ⟨rfl, rfl, rfl, by decide +kernel, rfl, by decide +kernel, by decide +kernel⟩
theorem ok_of (T : Txt K w mg G fd) : FnOk P w K mg base (L2.CX P w) 2 (G.fa 2) (fd 2) ["_law_bag_here", "_law_some"] (spF G 2 m_of) :=
  ok_fn (B := ⟨0, .none, none, 0⟩) T.F2 sc_of fun cdv A outer s H E zs hr tk => 
  (iss_one (is_ret (ie_ix ix_seq (ao_ix T.hK) (ie_var 1) (ie_call (ok_take T) (hr.mono (by decide)) tk T.m1 T.F1.kp T.b1 .nil gvs_nil (ia_cons (ie_var 0) (ia_cons (ie_callB call_len (ao_len T.hK) rfl T.z_len (by rfl) (ia_cons (ie_var 1) ia_nil)) ia_nil))))))
theorem sc_names : FnScope ["_law_bag_here", "_law_many", "_law_is_ahead", "_law_turn", "_law_left", "_law_found", "_law_stem", "_law_sign"] ["_law_bag_here", "_law_many"] (defScope st_names) := ⟨rfl, rfl, rfl, by decide +kernel, rfl, by decide +kernel, by decide +kernel⟩
theorem ok_names (T : Txt K w mg G fd) : FnOk P w K mg base (L2.CX P w) 3 (G.fa 3) (fd 3) ["_law_bag_here", "_law_many"] (spF G 2 m_names) :=
  ok_fn (B := ⟨0, .none, none, 0⟩) T.F3 sc_names fun cdv A outer s H E zs hr tk => 
  (iss_cons (is_par3 4 5 6 sc_names.nd (ia_cons (ie_callTy (call_listA rfl) (ao_listR T.hK) rfl T.z_list (by rfl) (ia_cons ie_str ia_nil)) (ia_cons (ie_lst ia_nil) (ia_cons ie_str ia_nil))))
  (iss_cons (is_set 2 sc_names.nd (ie_cmp (op_eqD hr.units) (ao_eq T.hK) (ie_call (ok_take T) (hr.mono (by decide)) tk T.m1 T.F1.kp T.b1 .nil gvs_nil (ia_cons (ie_var 0) (ia_cons ie_int ia_nil))) ie_int))
  (iss_cons (is_for (ms := l0_names) (passes_of rfl) rfl (ii_range1 T.z_range (ia_cons (ie_call (ok_take T) (hr.mono (by decide)) tk T.m1 T.F1.kp T.b1 .nil gvs_nil (ia_cons (ie_var 0) (ia_cons ie_int ia_nil))) ia_nil)) (ig_name 3 sc_names.nd) (iss_one (is_set 6 sc_names.nd (ie_op op_addA (ao_add T.hK) (ie_var 6) (ie_call (ok_of T) (hr.mono (by decide)) tk T.m2 T.F2.kp T.b2 .nil gvs_nil (ia_cons (ie_var 0) (ia_cons (ie_fl (ia_cons ie_str (ia_cons ie_str (ia_cons ie_str (ia_cons ie_str ia_nil))))) ia_nil)))))))
  (iss_cons (is_for (ms := l1_names) (passes_of rfl) rfl (ii_range1 T.z_range (ia_cons (ie_var 1) ia_nil)) (ig_name 3 sc_names.nd) (iss_cons (is_set 7 sc_names.nd (ie_popR (ie_var 4) (ia_cons (ie_call (ok_take T) (hr.mono (by decide)) tk T.m1 T.F1.kp T.b1 .nil gvs_nil (ia_cons (ie_var 0) (ia_cons (ie_callB call_len (ao_len T.hK) rfl T.z_len (by rfl) (ia_cons (ie_var 4) ia_nil)) ia_nil))) ia_nil)))
  (iss_one (is_expr (ie_appR (ie_var 5) (ia_cons (ie_if (it_of (ie_var 2)) (ie_op op_addA (ao_add T.hK) (ie_var 7) (ie_var 6)) (ie_op op_addA (ao_add T.hK) (ie_var 6) (ie_var 7))) ia_nil))))))
  (iss_one (is_ret (ie_kill (ie_var 5))))))))
theorem sc_keys : FnScope ["_law_bag_here", "_law_many", "_law_owners_here", "_law_name"] ["_law_bag_here", "_law_many"] (defScope st_keys) := ⟨rfl, rfl, rfl, by decide +kernel, rfl, by decide +kernel, by decide +kernel⟩
theorem ok_keys (T : Txt K w mg G fd) : FnOk P w K mg base (L2.CX P w) 4 (G.fa 4) (fd 4) ["_law_bag_here", "_law_many"] (spF G 2 m_keys) :=
  ok_fn (B := ⟨0, .none, none, 0⟩) T.F4 sc_keys fun cdv A outer s H E zs hr tk => 
  (iss_cons (is_set 2 sc_keys.nd (ie_call (ok_names T) (hr.mono (by decide)) tk T.m3 T.F3.kp T.b3 .nil gvs_nil (ia_cons (ie_var 0) (ia_cons (ie_op op_addA (ao_add T.hK) ie_int (ie_call (ok_take T) (hr.mono (by decide)) tk T.m1 T.F1.kp T.b1 .nil gvs_nil (ia_cons (ie_var 0) (ia_cons ie_int ia_nil)))) ia_nil))))
  (iss_one (is_ret (ie_lc [(("_law_name" : Str), 3)] sc_keys.nd (by show BlkOk ["_law_bag_here", "_law_many", "_law_owners_here", "_law_name"] (defScope st_keys) _ _; exact ⟨rfl, by decide +kernel, by decide +kernel, by decide +kernel, by decide +kernel⟩) (ii_list T.hK (ie_call (ok_names T) (hr.mono (by decide)) tk T.m3 T.F3.kp T.b3 .nil gvs_nil (ia_cons (ie_var 0) (ia_cons (ie_var 1) ia_nil)))) (fun s H C cl fp => (ige_name 3 sc_keys.nd)) (fun s H C cl fp => its_nil) (fun s H C cl fp => (ie_op op_addA (ao_add T.hK) (ie_op op_addA (ao_add T.hK) (ie_call (ok_of T) (hr.mono (by decide)) take0 T.m2 T.F2.kp T.b2 .nil gvs_nil (ia_cons (ie_var 0) (ia_cons (ie_var 2) ia_nil))) ie_str) (ie_var 3)))))))
theorem sc_owners : FnScope ["_law_bag_here", "_law_keys_here", "_law_owners_here", "_law_key"] ["_law_bag_here", "_law_keys_here"] (defScope st_owners) := ⟨rfl, rfl, rfl, by decide +kernel, rfl, by decide +kernel, by decide +kernel⟩
theorem ok_owners (T : Txt K w mg G fd) : FnOk P w K mg base (L2.CX P w) 2 (G.fa 5) (fd 5) ["_law_bag_here", "_law_keys_here"] (spF G 2 m_owners) :=
  ok_fn (B := ⟨0, .none, none, 0⟩) T.F5 sc_owners fun cdv A outer s H E zs hr tk => 
  (iss_cons (is_set 2 sc_owners.nd (ie_lst ia_nil))
  (iss_cons (is_for (ms := l0_owners) (passes_of rfl) rfl (ii_list T.hK (ie_var 1)) (ig_name 3 sc_owners.nd) (iss_one (is_if (it_cmp (op_eqD hr.units) (ao_eq T.hK) (ie_call (ok_take T) (hr.mono (by decide)) tk T.m1 T.F1.kp T.b1 .nil gvs_nil (ia_cons (ie_var 0) (ia_cons ie_int ia_nil))) ie_int) (iss_one (is_expr (ie_appR (ie_var 2) (ia_cons (ie_ix ix_seq (ao_ix T.hK) (ie_partition (ie_var 3) ie_str) ie_int) ia_nil)))) iss_nil)))
  (iss_one (is_ret (ie_var 2)))))
theorem sc_integer : FnScope ["_law_bag_here", "_law_choice", "_law_far"] ["_law_bag_here"] (defScope st_integer) := ⟨rfl, rfl, rfl, by decide +kernel, rfl, by decide +kernel, by decide +kernel⟩
theorem ok_integer (T : Txt K w mg G fd) : FnOk P w K mg base (L2.CX P w) 2 (G.fa 6) (fd 6) ["_law_bag_here"] (spF G 1 m_integer) :=
  ok_fn (B := ⟨0, .none, none, 0⟩) T.F6 sc_integer fun cdv A outer s H E zs hr tk => 
  (iss_cons (is_set 1 sc_integer.nd (ie_call (ok_take T) (hr.mono (by decide)) tk T.m1 T.F1.kp T.b1 .nil gvs_nil (ia_cons (ie_var 0) (ia_cons ie_int ia_nil))))
  (iss_cons (is_if (it_cmp op_lt (ao_cmp _) (ie_var 1) ie_int) (iss_one (is_ret (ie_ix ix_seq (ao_ix T.hK) (ie_fl (ia_cons ie_int (ia_cons ie_int (ia_cons (ie_un un_neg ao_neg ie_int) (ia_cons (ie_op op_sub ao_sub (ie_op op_pow ao_pow ie_int ie_int) ie_int) (ia_cons (ie_op op_sub ao_sub ie_int (ie_op op_pow ao_pow ie_int ie_int)) ia_nil)))))) (ie_var 1)))) iss_nil)
  (iss_cons (is_set 2 sc_integer.nd (ie_call (ok_take T) (hr.mono (by decide)) tk T.m1 T.F1.kp T.b1 .nil gvs_nil (ia_cons (ie_var 0) (ia_cons (ie_op op_pow ao_pow ie_int ie_int) ia_nil))))
  (iss_one (is_ret (ie_if (it_cmp (op_eqD hr.units) (ao_eq T.hK) (ie_var 1) ie_int) (ie_var 2) (ie_op op_sub ao_sub ie_int (ie_var 2))))))))
theorem sc_rows : FnScope ["_law_bag_here", "_law_keys_here", "_law_rows_here", "_law_key"] ["_law_bag_here", "_law_keys_here"] (defScope st_rows) := ⟨rfl, rfl, rfl, by decide +kernel, rfl, by decide +kernel, by decide +kernel⟩
theorem ok_rows (T : Txt K w mg G fd) : FnOk P w K mg base (L2.CX P w) 3 (G.fa 7) (fd 7) ["_law_bag_here", "_law_keys_here"] (spF G 2 m_rows) :=
  ok_fn (B := ⟨0, .none, none, 0⟩) T.F7 sc_rows fun cdv A outer s H E zs hr tk => 
  (iss_cons (is_set 2 sc_rows.nd (ie_lst ia_nil))
  (iss_cons (is_for (ms := l0_rows) (passes_of rfl) rfl (ii_list T.hK (ie_var 1)) (ig_name 3 sc_rows.nd) (iss_one (is_if (it_cmp (op_eqD hr.units) (ao_eq T.hK) (ie_call (ok_take T) (hr.mono (by decide)) tk T.m1 T.F1.kp T.b1 .nil gvs_nil (ia_cons (ie_var 0) (ia_cons ie_int ia_nil))) ie_int) (iss_one (is_expr (ie_appR (ie_var 2) (ia_cons (ie_tup (ia_cons (ie_var 3) (ia_cons (ie_call (ok_integer T) (hr.mono (by decide)) tk T.m6 T.F6.kp T.b6 .nil gvs_nil (ia_cons (ie_var 0) ia_nil)) ia_nil))) ia_nil)))) iss_nil)))
  (iss_one (is_ret (ie_var 2)))))
theorem sc_is_name : FnScope ["thing", "sign"] ["thing"] (defScope st_is_name) := ⟨rfl, rfl, rfl, by decide +kernel, rfl, by decide +kernel, by decide +kernel⟩
theorem ok_is_name (T : Txt K w mg G fd) : FnOk P w K mg base (L2.CX P w) 1 (G.fa 8) (fd 8) ["thing"] (spF G 1 m_is_name) :=
  ok_fn (B := ⟨0, .none, none, 0⟩) T.F8 sc_is_name fun cdv A outer s H E zs hr tk => 
  (iss_cons (is_if (IW.it (iw_or (it_not (it_of (ie_callB call_isi (ao_isi T.hK T.kit) rfl T.z_isinstance (by rfl) (ia_cons (ie_var 0) (ia_cons (ie_ty rfl T.z_str rfl) ia_nil))))) (iw_or1 (it_not (it_chain op_le (ao_cmp _) op_le (ao_cmp _) ie_int (ie_callB call_len (ao_len T.hK) rfl T.z_len (by rfl) (ia_cons (ie_var 0) ia_nil)) (let ⟨_, hm, hr⟩ := T.gc_MOST_SIGNS; ie_glob rfl hm hr gv_int)))))) (iss_one (is_ret ie_bl)) iss_nil)
  (iss_cons (is_for (ms := l0_is_name) (passes_of rfl) rfl (ii_str (ie_var 0)) (ig_name 1 sc_is_name.nd) (iss_one (is_if (it_cmp op_notInS (ao_inS true) (ie_var 1) (let ⟨_, hm, hr⟩ := T.gc_LETTERS; ie_glob rfl hm hr gv_str)) (iss_one (is_ret ie_bl)) iss_nil)))
  (iss_one (is_ret ie_bl))))
theorem sc_is_key : FnScope ["thing", "owner", "middle", "name"] ["thing"] (defScope st_is_key) := ⟨rfl, rfl, rfl, by decide +kernel, rfl, by decide +kernel, by decide +kernel⟩
theorem ok_is_key (T : Txt K w mg G fd) : FnOk P w K mg base (L2.CX P w) 2 (G.fa 9) (fd 9) ["thing"] (spF G 1 m_is_key) :=
  ok_fn (B := ⟨0, .none, none, 0⟩) T.F9 sc_is_key fun cdv A outer s H E zs hr tk => 
  (iss_cons (is_if (it_not (it_of (ie_callB call_isi (ao_isi T.hK T.kit) rfl T.z_isinstance (by rfl) (ia_cons (ie_var 0) (ia_cons (ie_ty rfl T.z_str rfl) ia_nil))))) (iss_one (is_ret ie_bl)) iss_nil)
  (iss_cons (is_asg (ie_partition (ie_var 0) ie_str) (ig_tup T.hK rfl (igs_cons (ig_name 1 sc_is_key.nd) (igs_cons (ig_name 2 sc_is_key.nd) (igs_cons (ig_name 3 sc_is_key.nd) igs_nil)))))
  (iss_one (is_ret (ie_and (ie_cmp (op_eqD hr.units) (ao_eq T.hK) (ie_var 2) ie_str) (ie_and (ie_call (ok_is_name T) (hr.mono (by decide)) tk T.m8 T.F8.kp T.b8 .nil gvs_nil (ia_cons (ie_var 1) ia_nil)) (ie_one (ie_call (ok_is_name T) (hr.mono (by decide)) tk T.m8 T.F8.kp T.b8 .nil gvs_nil (ia_cons (ie_var 3) ia_nil)))))))))
theorem sc_InvalidPart__init : FnScope ["self", "part", "thing"] ["self", "part", "thing"] (defScope st_InvalidPart__init) := ⟨rfl, rfl, rfl, by decide +kernel, rfl, by decide +kernel, by decide +kernel⟩
theorem ok_InvalidPart__init_InvalidPart (T : Txt K w mg G fd) : FnOk P w K mg base (L2.CX P w) 1 (G.fa 10) (fd 10) ["self", "part", "thing"] (spE (G.ca 1) ([0, 1].map G.nm)) := by
  rw [show (([0, 1] : List Nat).map G.nm) = (["part", "thing"] : List Str) from by simp only [List.map, T.n0, T.n1]]
  exact ok_einit2 (P := P) (w := w) (mg := mg) (base := base) T.F10 sc_InvalidPart__init T.oex1 T.xn1_0 T.xn1_1 rfl (.inl rfl) (.inl rfl) (.inl rfl) (by decide) (by decide) (by decide) (by decide) (by decide) (by decide)
theorem sc_is_integer : FnScope ["thing"] ["thing"] (defScope st_is_integer) := ⟨rfl, rfl, rfl, by decide +kernel, rfl, by decide +kernel, by decide +kernel⟩
theorem ok_is_integer (T : Txt K w mg G fd) : FnOk P w K mg base (L2.CX P w) 1 (G.fa 11) (fd 11) ["thing"] (spF G 1 m_is_integer) :=
  ok_fn (B := ⟨0, .none, none, 0⟩) T.F11 sc_is_integer fun cdv A outer s H E zs hr tk => 
  (iss_one (is_ret (ie_and (ie_callB call_isi (ao_isi T.hK T.kit) rfl T.z_isinstance (by rfl) (ia_cons (ie_var 0) (ia_cons (ie_ty rfl T.z_int rfl) ia_nil))) (ie_and (ie_not (ie_callB call_isi (ao_isi T.hK T.kit) rfl T.z_isinstance (by rfl) (ia_cons (ie_var 0) (ia_cons (ie_ty rfl T.z_bool rfl) ia_nil)))) (ie_one (ie_chain op_le (ao_cmp _) op_le (ao_cmp _) (ie_un un_neg ao_neg (let ⟨_, hm, hr⟩ := T.gc_GREATEST; ie_glob rfl hm hr gv_int)) (ie_var 0) (let ⟨_, hm, hr⟩ := T.gc_GREATEST; ie_glob rfl hm hr gv_int)))))))
theorem sc_checked_rows : FnScope ["rows", "kept", "key", "value"] ["rows"] (defScope st_checked_rows) := ⟨rfl, rfl, rfl, by decide +kernel, rfl, by decide +kernel, by decide +kernel⟩
theorem ok_checked_rows (T : Txt K w mg G fd) : FnOk P w K mg base (L2.CX P w) 3 (G.fa 12) (fd 12) ["rows"] (spF G 1 m_checked_rows) :=
  ok_fn (B := ⟨0, .none, none, 0⟩) T.F12 sc_checked_rows fun cdv A outer s H E zs hr tk => 
  (iss_cons (is_set 1 sc_checked_rows.nd ie_dnew)
  (iss_cons (is_forD (ms := l0_checked_rows) 100 (passes_of rfl) rfl (iiD_list T.hK (ie_var 0)) (ig_tup T.hK rfl (igs_cons (ig_name 2 sc_checked_rows.nd) (igs_cons (ig_name 3 sc_checked_rows.nd) igs_nil))) (iss_cons (is_if (IW.it (iw_or (it_not (it_of (ie_call (ok_is_key T) (hr.mono (by decide)) tk T.m9 T.F9.kp T.b9 .nil gvs_nil (ia_cons (ie_var 2) ia_nil)))) (iw_or1 (it_cmp (op_inDict (hu_of hr)) (ao_inDict false) (ie_var 2) (ie_var 1))))) (iss_one (is_raise rfl tk (ix_mk T.oex1 T.xi1 T.xt1 (ok_InvalidPart__init_InvalidPart T) (hr.mono (by decide)) T.b10 T.mc1 (ia_cons ie_str (ia_cons (ie_var 2) ia_nil))))) iss_nil)
  (iss_cons (is_if (it_not (it_of (ie_call (ok_is_integer T) (hr.mono (by decide)) tk T.m11 T.F11.kp T.b11 .nil gvs_nil (ia_cons (ie_var 3) ia_nil)))) (iss_one (is_raise rfl tk (ix_mk T.oex1 T.xi1 T.xt1 (ok_InvalidPart__init_InvalidPart T) (hr.mono (by decide)) T.b10 T.mc1 (ia_cons ie_str (ia_cons (ie_var 3) ia_nil))))) iss_nil)
  (iss_one (is_dput (hu_of hr) (ie_var 3) (ie_var 1) (ie_var 2))))))
  (iss_one (is_ret (ie_var 1)))))
theorem sc_owner_of : FnScope ["key"] ["key"] (defScope st_owner_of) := ⟨rfl, rfl, rfl, by decide +kernel, rfl, by decide +kernel, by decide +kernel⟩
theorem ok_owner_of (T : Txt K w mg G fd) : FnOk P w K mg base (L2.CX P w) 3 (G.fa 13) (fd 13) ["key"] (spF G 1 m_owner_of) :=
  ok_fn (B := ⟨0, .none, none, 0⟩) T.F13 sc_owner_of fun cdv A outer s H E zs hr tk => 
  (iss_cons (is_if (it_not (it_of (ie_call (ok_is_key T) (hr.mono (by decide)) tk T.m9 T.F9.kp T.b9 .nil gvs_nil (ia_cons (ie_var 0) ia_nil)))) (iss_one (is_raise rfl tk (ix_mk T.oex1 T.xi1 T.xt1 (ok_InvalidPart__init_InvalidPart T) (hr.mono (by decide)) T.b10 T.mc1 (ia_cons ie_str (ia_cons (ie_var 0) ia_nil))))) iss_nil)
  (iss_one (is_ret (ie_ix ix_seq (ao_ix T.hK) (ie_partition (ie_var 0) ie_str) ie_int))))
theorem sc_checked_owners : FnScope ["kept", "owners", "born", "name", "key"] ["kept", "owners"] (defScope st_checked_owners) := ⟨rfl, rfl, rfl, by decide +kernel, rfl, by decide +kernel, by decide +kernel⟩
theorem ok_checked_owners (T : Txt K w mg G fd) : FnOk P w K mg base (L2.CX P w) 4 (G.fa 14) (fd 14) ["kept", "owners"] (spF G 2 m_checked_owners) :=
  ok_fn (B := ⟨0, .none, none, 0⟩) T.F14 sc_checked_owners fun cdv A outer s H E zs hr tk => 
  (iss_cons (is_set 2 sc_checked_owners.nd (ie_callTy (call_dictA rfl) (ao_dictR T.hK) rfl T.z_dict (by rfl) (ia_cons (ie_lcK 0 [(("key" : Str), 4)] sc_checked_owners.nd (by show BlkOk ["kept", "owners", "born", "name", "key"] (defScope st_checked_owners) _ _; exact ⟨rfl, by decide +kernel, by decide +kernel, by decide +kernel, by decide +kernel⟩) (fun s H C cl fp => (ige_name 4 sc_checked_owners.nd)) (fun s H C cl fp => its_nil) (fun s H C cl fp => (ie_tup (ia_cons (ie_call (ok_owner_of T) (hr.mono (by decide)) take0 T.m13 T.F13.kp T.b13 .nil gvs_nil (ia_cons (ie_var 4) ia_nil)) (ia_cons ie_bl ia_nil))))) ia_nil)))
  (iss_cons (is_forD (ms := l0_checked_owners) 100 (passes_of rfl) rfl (iiD_list T.hK (ie_var 1)) (ig_name 3 sc_checked_owners.nd) (iss_cons (is_if (it_not (it_of (ie_call (ok_is_name T) (hr.mono (by decide)) tk T.m8 T.F8.kp T.b8 .nil gvs_nil (ia_cons (ie_var 3) ia_nil)))) (iss_one (is_raise rfl tk (ix_mk T.oex1 T.xi1 T.xt1 (ok_InvalidPart__init_InvalidPart T) (hr.mono (by decide)) T.b10 T.mc1 (ia_cons ie_str (ia_cons (ie_var 3) ia_nil))))) iss_nil)
  (iss_one (is_dput (hu_of hr) ie_bl (ie_var 2) (ie_var 3)))))
  (iss_one (is_ret (ie_var 2)))))
theorem sc_Store__init : FnScope ["self", "rows", "owners", "kept", "born"] ["self", "rows", "owners"] (defScope st_Store__init) := ⟨rfl, rfl, rfl, by decide +kernel, rfl, by decide +kernel, by decide +kernel⟩
theorem ok_Store__init (T : Txt K w mg G fd) : FnOk P w K mg base (L2.CX P w) 5 (G.fa 15) (fd 15) ["self", "rows", "owners"] (spI G 13 3 m_Store__init) :=
  ok_initD (Classical.choose_spec (Classical.choose_spec T.F15)) sc_Store__init fun B cdv A outer s H E zs hr tk => 
  (iss_cons (is_if (it_of (ie_callB call_isi (ao_isi T.hK T.kit) rfl T.z_isinstance (by rfl) (ia_cons (ie_var 1) (ia_cons (ie_cls 12 rfl T.mc12) ia_nil)))) (iss_one (is_par 3 4 sc_Store__init.nd (ia_cons (ie_callTy (call_dictA rfl) (ao_dictR T.hK) rfl T.z_dict (by rfl) (ia_cons (ie_fld (ie_var 1) T.n42 (fa1 T.fo12_42 (fa1 T.fo13_42 fa0))) ia_nil)) (ia_cons (ie_callTy (call_dictA rfl) (ao_dictR T.hK) rfl T.z_dict (by rfl) (ia_cons (ie_fld (ie_var 1) T.n43 (fa1 T.fo12_43 (fa1 T.fo13_43 fa0))) ia_nil)) ia_nil)))) (iss_cons (is_set 3 sc_Store__init.nd (ie_call (ok_checked_rows T) (hr.mono (by decide)) tk T.m12 T.F12.kp T.b12 .nil gvs_nil (ia_cons (ie_var 1) ia_nil)))
  (iss_one (is_set 4 sc_Store__init.nd (ie_call (ok_checked_owners T) (hr.mono (by decide)) tk T.m14 T.F14.kp T.b14 .nil gvs_nil (ia_cons (ie_var 3) (ia_cons (ie_var 2) ia_nil)))))))
  (iss_cons (is_ownf (ie_var 3) T.n42 (fa1 T.fo13_42 fa0))
  (iss_one (is_ownf (ie_var 4) T.n43 (fa1 T.fo13_43 fa0)))))
theorem sc_Store_all_owners : FnScope ["self"] ["self"] (defScope st_Store_all_owners) := ⟨rfl, rfl, rfl, by decide +kernel, rfl, by decide +kernel, by decide +kernel⟩
theorem ok_Store_all_owners (T : Txt K w mg G fd) : FnOk P w K mg base (L2.CX P w) 1 (G.fa 16) (fd 16) ["self"] (spF G 1 m_Store_all_owners) :=
  ok_fn (B := ⟨0, .none, none, 0⟩) T.F16 sc_Store_all_owners fun cdv A outer s H E zs hr tk => 
  (iss_one (is_ret (ie_callB (call_sortA rfl) (ao_sortF T.hK) rfl T.z_sorted (by rfl) (ia_cons (ie_callTy (call_listD rfl) ao_listDF rfl T.z_list (by rfl) (ia_cons (ie_fld (ie_var 0) T.n43 (fa1 T.fo12_43 (fa1 T.fo13_43 fa0))) ia_nil)) ia_nil))))
theorem sc_Store_all_rows : FnScope ["self", "key"] ["self"] (defScope st_Store_all_rows) := ⟨rfl, rfl, rfl, by decide +kernel, rfl, by decide +kernel, by decide +kernel⟩
theorem ok_Store_all_rows (T : Txt K w mg G fd) : FnOk P w K mg base (L2.CX P w) 1 (G.fa 17) (fd 17) ["self"] (spF G 1 m_Store_all_rows) :=
  ok_fn (B := ⟨0, .none, none, 0⟩) T.F17 sc_Store_all_rows fun cdv A outer s H E zs hr tk => 
  (iss_one (is_ret (ie_lc [(("key" : Str), 1)] sc_Store_all_rows.nd (by show BlkOk ["self", "key"] (defScope st_Store_all_rows) _ _; exact ⟨rfl, by decide +kernel, by decide +kernel, by decide +kernel, by decide +kernel⟩) (ii_list T.hK (ie_callB (call_sortA rfl) (ao_sortF T.hK) rfl T.z_sorted (by rfl) (ia_cons (ie_callTy (call_listD rfl) ao_listDF rfl T.z_list (by rfl) (ia_cons (ie_fld (ie_var 0) T.n42 (fa1 T.fo12_42 (fa1 T.fo13_42 fa0))) ia_nil)) ia_nil))) (fun s H C cl fp => (ige_name 1 sc_Store_all_rows.nd)) (fun s H C cl fp => its_nil) (fun s H C cl fp => (ie_tup (ia_cons (ie_var 1) (ia_cons (ie_dget (hu_of hr) (ie_fld (ie_var 0) T.n42 (fa1 T.fo12_42 (fa1 T.fo13_42 fa0))) (ie_var 1)) ia_nil)))))))
theorem sc_odd : FnScope ["_law_bag_here"] ["_law_bag_here"] (defScope st_odd) := ⟨rfl, rfl, rfl, by decide +kernel, rfl, by decide +kernel, by decide +kernel⟩
theorem ok_odd (T : Txt K w mg G fd) : FnOk P w K mg base (L2.CX P w) 3 (G.fa 18) (fd 18) ["_law_bag_here"] (spF G 1 m_odd) :=
  ok_fn (B := ⟨0, .none, none, 0⟩) T.F18 sc_odd fun cdv A outer s H E zs hr tk => 
  (iss_one (is_ret (ie_call (ok_of T) (hr.mono (by decide)) tk T.m2 T.F2.kp T.b2 .nil gvs_nil (ia_cons (ie_var 0) (ia_cons (ie_fl (ia_cons ie_non (ia_cons ie_bl (ia_cons ie_bl (ia_cons ie_int (ia_cons ie_int (ia_cons (ie_un un_neg ao_neg ie_int) (ia_cons (ie_op op_pow ao_pow ie_int ie_int) (ia_cons ie_str (ia_cons ie_str (ia_cons ie_str (ia_cons ie_str (ia_cons ie_str (ia_cons (ie_fl ia_nil) (ia_cons (ie_fl (ia_cons ie_str ia_nil)) (ia_cons (ie_tup ia_nil) (ia_cons (ie_tup (ia_cons ie_str ia_nil)) (ia_cons ie_str (ia_cons ie_str (ia_cons ie_str (ia_cons ie_str (ia_cons ie_str (ia_cons (ie_op op_mulA ao_mul ie_str ie_int) ia_nil))))))))))))))))))))))) ia_nil)))))
theorem sc_told : FnScope ["_law_rows_here", "_law_names_here", "_law_told_here", "e"] ["_law_rows_here", "_law_names_here"] (defScope st_told) := ⟨rfl, rfl, rfl, by decide +kernel, rfl, by decide +kernel, by decide +kernel⟩
theorem ok_told (T : Txt K w mg G fd) : FnOk P w K mg base (L2.CX P w) 7 (G.fa 19) (fd 19) ["_law_rows_here", "_law_names_here"] (spF G 2 m_told) :=
  ok_fn (B := ⟨0, .none, none, 0⟩) T.F19 sc_told fun cdv A outer s H E zs hr tk => 
  (iss_cons (is_set 2 sc_told.nd ie_non)
  (iss_cons (is_try_as 3 sc_told.nd tk ⟨rfl, by decide, .inl T.mc1⟩ T.mt1 (fun W pn xe tk hp => (iss_one (is_expr (ie_mkN T.mk13 (ok_Store__init T) (hr.mono (by decide)) tk T.mc13 T.kb15_0 (ia_cons (ie_var 0) (ia_cons (ie_var 1) ia_nil)) ik_nil)))) (fun a oe cls dd pn hz hf => (iss_one (is_set 2 sc_told.nd (ie_fl (ia_cons (ie_exf 3 hz hf T.n0 (fa1 T.xf1_0 fa0)) (ia_cons (ie_exf 3 hz hf T.n1 (fa1 T.xf1_1 fa0)) ia_nil)))))))
  (iss_one (is_ret (ie_var 2)))))
theorem sc_is_value : FnScope ["_law_thing"] ["_law_thing"] (defScope st_is_value) := ⟨rfl, rfl, rfl, by decide +kernel, rfl, by decide +kernel, by decide +kernel⟩
theorem ok_is_value (T : Txt K w mg G fd) : FnOk P w K mg base (L2.CX P w) 1 (G.fa 20) (fd 20) ["_law_thing"] (spF G 1 m_is_value) :=
  ok_fn (B := ⟨0, .none, none, 0⟩) T.F20 sc_is_value fun cdv A outer s H E zs hr tk => 
  (iss_one (is_ret (ie_and (ie_callB call_isi (ao_isi T.hK T.kit) rfl T.z_isinstance (by rfl) (ia_cons (ie_var 0) (ia_cons (ie_ty rfl T.z_int rfl) ia_nil))) (ie_and (ie_not (ie_callB call_isi (ao_isi T.hK T.kit) rfl T.z_isinstance (by rfl) (ia_cons (ie_var 0) (ia_cons (ie_ty rfl T.z_bool rfl) ia_nil)))) (ie_one (ie_cmp op_lt (ao_cmp _) (ie_callB call_abs ao_abs rfl T.z_abs (by rfl) (ia_cons (ie_var 0) ia_nil)) (ie_op op_pow ao_pow ie_int ie_int)))))))
theorem sc_due : FnScope ["_law_rows_here", "_law_names_here", "_law_keys_here", "_law_seen", "_law_name", "_law_key", "_law_value_here"] ["_law_rows_here", "_law_names_here", "_law_keys_here"] (defScope st_due) := ⟨rfl, rfl, rfl, by decide +kernel, rfl, by decide +kernel, by decide +kernel⟩
theorem ok_due (T : Txt K w mg G fd) : FnOk P w K mg base (L2.CX P w) 2 (G.fa 21) (fd 21) ["_law_rows_here", "_law_names_here", "_law_keys_here"] (spF G 3 m_due) :=
  ok_fn (B := ⟨0, .none, none, 0⟩) T.F21 sc_due fun cdv A outer s H E zs hr tk => 
  (iss_cons (is_set 3 sc_due.nd (ie_lst ia_nil))
  (iss_cons (is_forD (ms := l0_due) 100 (passes_of rfl) rfl (iiD_list T.hK (ie_var 0)) (ig_tup T.hK rfl (igs_cons (ig_name 5 sc_due.nd) (igs_cons (ig_name 6 sc_due.nd) igs_nil))) (iss_cons (is_if (IW.it (iw_or (it_cmp (op_notInDA hr) (ao_inH T.hK true) (ie_var 5) (ie_var 2)) (iw_or1 (it_cmp (op_inDA hr) (ao_inH T.hK false) (ie_var 5) (ie_var 3))))) (iss_one (is_ret (ie_fl (ia_cons ie_str (ia_cons (ie_var 5) ia_nil))))) iss_nil)
  (iss_cons (is_if (it_not (it_of (ie_call (ok_is_value T) (hr.mono (by decide)) tk T.m20 T.F20.kp T.b20 .nil gvs_nil (ia_cons (ie_var 6) ia_nil)))) (iss_one (is_ret (ie_fl (ia_cons ie_str (ia_cons (ie_var 6) ia_nil))))) iss_nil)
  (iss_one (is_expr (ie_appR (ie_var 3) (ia_cons (ie_var 5) ia_nil)))))))
  (iss_cons (is_forD (ms := l1_due) 100 (passes_of rfl) rfl (iiD_list T.hK (ie_var 1)) (ig_name 4 sc_due.nd) (iss_one (is_if (it_cmp (op_notInDA hr) (ao_inH T.hK true) (ie_var 4) (ie_lc [(("_law_key" : Str), 5)] sc_due.nd (by show BlkOk ["_law_rows_here", "_law_names_here", "_law_keys_here", "_law_seen", "_law_name", "_law_key", "_law_value_here"] (defScope st_due) _ _; exact ⟨rfl, by decide +kernel, by decide +kernel, by decide +kernel, by decide +kernel⟩) (ii_list T.hK (ie_var 2)) (fun s H C cl fp => (ige_name 5 sc_due.nd)) (fun s H C cl fp => its_nil) (fun s H C cl fp => (ie_ix ix_seq (ao_ix T.hK) (ie_partition (ie_var 5) ie_str) ie_int)))) (iss_one (is_ret (ie_fl (ia_cons ie_str (ia_cons (ie_var 4) ia_nil))))) iss_nil)))
  (iss_one (is_ret ie_non)))))
theorem sc_Store__setitem : FnScope ["self", "key", "value"] ["self", "key", "value"] (defScope st_Store__setitem) := ⟨rfl, rfl, rfl, by decide +kernel, rfl, by decide +kernel, by decide +kernel⟩
theorem ok_Store__setitem (T : Txt K w mg G fd) : FnOk P w K mg base (L2.CX P w) 4 (G.fa 22) (fd 22) ["self", "key", "value"] (spF G 3 m_Store__setitem) :=
  ok_fn (B := ⟨0, .none, none, 0⟩) T.F22 sc_Store__setitem fun cdv A outer s H E zs hr tk => 
  (iss_cons (is_if (it_not (it_of (ie_call (ok_is_key T) (hr.mono (by decide)) tk T.m9 T.F9.kp T.b9 .nil gvs_nil (ia_cons (ie_var 1) ia_nil)))) (iss_one (is_raise rfl tk (ix_mk T.oex1 T.xi1 T.xt1 (ok_InvalidPart__init_InvalidPart T) (hr.mono (by decide)) T.b10 T.mc1 (ia_cons ie_str (ia_cons (ie_var 1) ia_nil))))) iss_nil)
  (iss_cons (is_if (it_not (it_of (ie_call (ok_is_integer T) (hr.mono (by decide)) tk T.m11 T.F11.kp T.b11 .nil gvs_nil (ia_cons (ie_var 2) ia_nil)))) (iss_one (is_raise rfl tk (ix_mk T.oex1 T.xi1 T.xt1 (ok_InvalidPart__init_InvalidPart T) (hr.mono (by decide)) T.b10 T.mc1 (ia_cons ie_str (ia_cons (ie_var 2) ia_nil))))) iss_nil)
  (iss_cons (is_dput (hu_of hr) (ie_var 2) (ie_fld (ie_var 0) T.n42 (fa1 T.fo12_42 (fa1 T.fo13_42 fa0))) (ie_var 1))
  (iss_one (is_dput (hu_of hr) ie_bl (ie_fld (ie_var 0) T.n43 (fa1 T.fo12_43 (fa1 T.fo13_43 fa0))) (ie_call (ok_owner_of T) (hr.mono (by decide)) tk T.m13 T.F13.kp T.b13 .nil gvs_nil (ia_cons (ie_var 1) ia_nil)))))))
theorem sc_set : FnScope ["_law_store", "_law_key", "_law_value_here", "_law_told_here", "e"] ["_law_store", "_law_key", "_law_value_here"] (defScope st_set) := ⟨rfl, rfl, rfl, by decide +kernel, rfl, by decide +kernel, by decide +kernel⟩
theorem ok_set (T : Txt K w mg G fd) : FnOk P w K mg base (L2.CX P w) 5 (G.fa 23) (fd 23) ["_law_store", "_law_key", "_law_value_here"] (spF G 3 m_set) :=
  ok_fn (B := ⟨0, .none, none, 0⟩) T.F23 sc_set fun cdv A outer s H E zs hr tk => 
  (iss_cons (is_set 3 sc_set.nd ie_non)
  (iss_cons (is_try_as 4 sc_set.nd tk ⟨rfl, by decide, .inl T.mc1⟩ T.mt1 (fun W pn xe tk hp => (iss_one (is_ownset T.os13_setitem (ok_Store__setitem T) (hr.mono (by decide)) tk T.b22 (ie_var 2) (ie_var 0) (ie_var 1)))) (fun a oe cls dd pn hz hf => (iss_one (is_set 3 sc_set.nd (ie_fl (ia_cons (ie_exf 4 hz hf T.n0 (fa1 T.xf1_0 fa0)) (ia_cons (ie_exf 4 hz hf T.n1 (fa1 T.xf1_1 fa0)) ia_nil)))))))
  (iss_one (is_ret (ie_var 3)))))
theorem sc_Store_has_owner : FnScope ["self", "name"] ["self", "name"] (defScope st_Store_has_owner) := ⟨rfl, rfl, rfl, by decide +kernel, rfl, by decide +kernel, by decide +kernel⟩
theorem ok_Store_has_owner (T : Txt K w mg G fd) : FnOk P w K mg base (L2.CX P w) 2 (G.fa 24) (fd 24) ["self", "name"] (spF G 2 m_Store_has_owner) :=
  ok_fn (B := ⟨0, .none, none, 0⟩) T.F24 sc_Store_has_owner fun cdv A outer s H E zs hr tk => 
  (iss_one (is_ret (ie_and (ie_call (ok_is_name T) (hr.mono (by decide)) tk T.m8 T.F8.kp T.b8 .nil gvs_nil (ia_cons (ie_var 1) ia_nil)) (ie_one (ie_cmp (op_inDict (hu_of hr)) (ao_inDict false) (ie_var 1) (ie_fld (ie_var 0) T.n43 (fa1 T.fo12_43 (fa1 T.fo13_43 fa0))))))))
theorem sc_Store_row : FnScope ["self", "key"] ["self", "key"] (defScope st_Store_row) := ⟨rfl, rfl, rfl, by decide +kernel, rfl, by decide +kernel, by decide +kernel⟩
theorem ok_Store_row (T : Txt K w mg G fd) : FnOk P w K mg base (L2.CX P w) 3 (G.fa 25) (fd 25) ["self", "key"] (spF G 2 m_Store_row) :=
  ok_fn (B := ⟨0, .none, none, 0⟩) T.F25 sc_Store_row fun cdv A outer s H E zs hr tk => 
  (iss_one (is_ret (ie_if (IW.it (iw_and (it_of (ie_call (ok_is_key T) (hr.mono (by decide)) tk T.m9 T.F9.kp T.b9 .nil gvs_nil (ia_cons (ie_var 1) ia_nil))) (iw_and1 (it_cmp (op_inDict (hu_of hr)) (ao_inDict false) (ie_var 1) (ie_fld (ie_var 0) T.n42 (fa1 T.fo12_42 (fa1 T.fo13_42 fa0))))))) (ie_tup (ia_cons (ie_dget (hu_of hr) (ie_fld (ie_var 0) T.n42 (fa1 T.fo12_42 (fa1 T.fo13_42 fa0))) (ie_var 1)) ia_nil)) (ie_tup ia_nil))))
theorem sc_Store__contains : FnScope ["self", "key"] ["self", "key"] (defScope st_Store__contains) := ⟨rfl, rfl, rfl, by decide +kernel, rfl, by decide +kernel, by decide +kernel⟩
theorem ok_Store__contains (T : Txt K w mg G fd) : FnOk P w K mg base (L2.CX P w) 3 (G.fa 26) (fd 26) ["self", "key"] (spF G 2 m_Store__contains) :=
  ok_fn (B := ⟨0, .none, none, 0⟩) T.F26 sc_Store__contains fun cdv A outer s H E zs hr tk => 
  (iss_one (is_ret (ie_and (ie_call (ok_is_key T) (hr.mono (by decide)) tk T.m9 T.F9.kp T.b9 .nil gvs_nil (ia_cons (ie_var 1) ia_nil)) (ie_one (ie_cmp (op_inDict (hu_of hr)) (ao_inDict false) (ie_var 1) (ie_fld (ie_var 0) T.n42 (fa1 T.fo12_42 (fa1 T.fo13_42 fa0))))))))
theorem sc_Missing__init : FnScope ["self", "key"] ["self", "key"] (defScope st_Missing__init) := ⟨rfl, rfl, rfl, by decide +kernel, rfl, by decide +kernel, by decide +kernel⟩
theorem ok_Missing__init_Missing (T : Txt K w mg G fd) : FnOk P w K mg base (L2.CX P w) 1 (G.fa 27) (fd 27) ["self", "key"] (spE (G.ca 3) ([4].map G.nm)) := by
  rw [show (([4] : List Nat).map G.nm) = (["key"] : List Str) from by simp only [List.map, T.n4]]
  exact ok_einit1 (P := P) (w := w) (mg := mg) (base := base) T.F27 sc_Missing__init T.oex3 T.xn3_4 rfl (.inl rfl) (.inl rfl) (by decide) (by decide) (by decide) (by decide)
theorem sc_Store__getitem : FnScope ["self", "key"] ["self", "key"] (defScope st_Store__getitem) := ⟨rfl, rfl, rfl, by decide +kernel, rfl, by decide +kernel, by decide +kernel⟩
theorem ok_Store__getitem (T : Txt K w mg G fd) : FnOk P w K mg base (L2.CX P w) 3 (G.fa 28) (fd 28) ["self", "key"] (spF G 2 m_Store__getitem) :=
  ok_fn (B := ⟨0, .none, none, 0⟩) T.F28 sc_Store__getitem fun cdv A outer s H E zs hr tk => 
  (iss_cons (is_if (IW.it (iw_or (it_not (it_of (ie_call (ok_is_key T) (hr.mono (by decide)) tk T.m9 T.F9.kp T.b9 .nil gvs_nil (ia_cons (ie_var 1) ia_nil)))) (iw_or1 (it_cmp (op_notInDict (hu_of hr)) (ao_inDict true) (ie_var 1) (ie_fld (ie_var 0) T.n42 (fa1 T.fo12_42 (fa1 T.fo13_42 fa0))))))) (iss_one (is_raise rfl tk (ix_mk T.oex3 T.xi3 T.xt3 (ok_Missing__init_Missing T) (hr.mono (by decide)) T.b27 T.mc3 (ia_cons (ie_var 1) ia_nil)))) iss_nil)
  (iss_one (is_ret (ie_dget (hu_of hr) (ie_fld (ie_var 0) T.n42 (fa1 T.fo12_42 (fa1 T.fo13_42 fa0))) (ie_var 1)))))
theorem sc_Store_drop : FnScope ["self", "key"] ["self", "key"] (defScope st_Store_drop) := ⟨rfl, rfl, rfl, by decide +kernel, rfl, by decide +kernel, by decide +kernel⟩
theorem ok_Store_drop (T : Txt K w mg G fd) : FnOk P w K mg base (L2.CX P w) 3 (G.fa 29) (fd 29) ["self", "key"] (spF G 2 m_Store_drop) :=
  ok_fn (B := ⟨0, .none, none, 0⟩) T.F29 sc_Store_drop fun cdv A outer s H E zs hr tk => 
  (iss_cons (is_if (IW.it (iw_or (it_not (it_of (ie_call (ok_is_key T) (hr.mono (by decide)) tk T.m9 T.F9.kp T.b9 .nil gvs_nil (ia_cons (ie_var 1) ia_nil)))) (iw_or1 (it_cmp (op_notInDict (hu_of hr)) (ao_inDict true) (ie_var 1) (ie_fld (ie_var 0) T.n42 (fa1 T.fo12_42 (fa1 T.fo13_42 fa0))))))) (iss_one (is_raise rfl tk (ix_mk T.oex3 T.xi3 T.xt3 (ok_Missing__init_Missing T) (hr.mono (by decide)) T.b27 T.mc3 (ia_cons (ie_var 1) ia_nil)))) iss_nil)
  (iss_one (is_ddel (ie_fld (ie_var 0) T.n42 (fa1 T.fo12_42 (fa1 T.fo13_42 fa0))) (ie_var 1))))
theorem sc_Store_bear : FnScope ["self", "name", "was_lacking"] ["self", "name"] (defScope st_Store_bear) := ⟨rfl, rfl, rfl, by decide +kernel, rfl, by decide +kernel, by decide +kernel⟩
theorem ok_Store_bear (T : Txt K w mg G fd) : FnOk P w K mg base (L2.CX P w) 3 (G.fa 30) (fd 30) ["self", "name"] (spF G 2 m_Store_bear) :=
  ok_fn (B := ⟨0, .none, none, 0⟩) T.F30 sc_Store_bear fun cdv A outer s H E zs hr tk => 
  (iss_cons (is_if (it_not (it_of (ie_call (ok_is_name T) (hr.mono (by decide)) tk T.m8 T.F8.kp T.b8 .nil gvs_nil (ia_cons (ie_var 1) ia_nil)))) (iss_one (is_raise rfl tk (ix_mk T.oex1 T.xi1 T.xt1 (ok_InvalidPart__init_InvalidPart T) (hr.mono (by decide)) T.b10 T.mc1 (ia_cons ie_str (ia_cons (ie_var 1) ia_nil))))) iss_nil)
  (iss_cons (is_set 2 sc_Store_bear.nd (ie_cmp (op_notInDict (hu_of hr)) (ao_inDict true) (ie_var 1) (ie_fld (ie_var 0) T.n43 (fa1 T.fo12_43 (fa1 T.fo13_43 fa0)))))
  (iss_cons (is_dput (hu_of hr) ie_bl (ie_fld (ie_var 0) T.n43 (fa1 T.fo12_43 (fa1 T.fo13_43 fa0))) (ie_var 1))
  (iss_one (is_ret (ie_var 2))))))
theorem sc_gone : FnScope ["_law_store", "_law_key", "_law_way", "_law_told_here", "e"] ["_law_store", "_law_key", "_law_way"] (defScope st_gone) := ⟨rfl, rfl, rfl, by decide +kernel, rfl, by decide +kernel, by decide +kernel⟩
theorem ok_gone (T : Txt K w mg G fd) : FnOk P w K mg base (L2.CX P w) 5 (G.fa 31) (fd 31) ["_law_store", "_law_key", "_law_way"] (spF G 3 m_gone) :=
  ok_fn (B := ⟨0, .none, none, 0⟩) T.F31 sc_gone fun cdv A outer s H E zs hr tk => 
  (iss_cons (is_set 3 sc_gone.nd ie_non)
  (iss_cons (is_try_as2 4 4 sc_gone.nd tk ⟨rfl, by decide, .inl T.mc3⟩ T.mt3 ⟨rfl, by decide, .inl T.mc1⟩ T.mt1 (fun W pn xe tk hp => (iss_one (is_if (it_cmp (op_eqD hr.units) (ao_eqH T.hK) (ie_var 2) ie_int) (iss_one (is_set 3 sc_gone.nd (ie_fl (ia_cons ie_str (ia_cons (ie_ownix T.os13_getitem (ok_Store__getitem T) (hr.mono (by decide)) tk T.b28 (ie_var 0) (ie_var 1)) ia_nil))))) (iss_one (is_if (it_cmp (op_eqD hr.units) (ao_eqH T.hK) (ie_var 2) ie_int) (iss_one (is_expr (ie_meth (ie_var 0) T.n52 T.cl13 T.me13_52 (ok_Store_drop T) (hr.mono (by decide)) tk T.b29 .nil gvs_nil (ia_cons (ie_var 1) ia_nil)))) (iss_one (is_set 3 sc_gone.nd (ie_fl (ia_cons ie_str (ia_cons (ie_meth (ie_var 0) T.n51 T.cl13 T.me13_51 (ok_Store_bear T) (hr.mono (by decide)) tk T.b30 .nil gvs_nil (ia_cons (ie_var 1) ia_nil)) ia_nil)))))))))) (fun a oe cls dd pn hz hf => (iss_one (is_set 3 sc_gone.nd (ie_fl (ia_cons ie_str (ia_cons (ie_exf 4 hz hf T.n4 (fa1 T.xf3_4 fa0)) ia_nil)))))) (fun a oe cls dd pn hz hf => (iss_one (is_set 3 sc_gone.nd (ie_fl (ia_cons (ie_exf 4 hz hf T.n0 (fa1 T.xf1_0 fa0)) (ia_cons (ie_exf 4 hz hf T.n1 (fa1 T.xf1_1 fa0)) ia_nil)))))))
  (iss_one (is_ret (ie_var 3)))))
theorem sc_in_use : FnScope ["_law_bag_here", "_law_store", "_law_keys_here", "_law_kept", "_law_odd_here", "_law_number"] ["_law_bag_here", "_law_store", "_law_keys_here", "_law_kept"] (defScope st_in_use) := ⟨rfl, rfl, rfl, by decide +kernel, rfl, by decide +kernel, by decide +kernel⟩
theorem ok_in_use (T : Txt K w mg G fd) : FnOk P w K mg base (L2.CX P w) 6 (G.fa 32) (fd 32) ["_law_bag_here", "_law_store", "_law_keys_here", "_law_kept"] (spF G 4 m_in_use) :=
  ok_fn (B := ⟨0, .none, none, 0⟩) T.F32 sc_in_use fun cdv A outer s H E zs hr tk => 
  (iss_cons (is_set 4 sc_in_use.nd (ie_call (ok_odd T) (hr.mono (by decide)) tk T.m18 T.F18.kp T.b18 .nil gvs_nil (ia_cons (ie_var 0) ia_nil)))
  (iss_cons (is_set 5 sc_in_use.nd (ie_call (ok_of T) (hr.mono (by decide)) tk T.m2 T.F2.kp T.b2 .nil gvs_nil (ia_cons (ie_var 0) (ia_cons (ie_fl (ia_cons (ie_op op_pow ao_pow ie_int ie_int) (ia_cons (ie_un un_neg ao_neg (ie_op op_pow ao_pow ie_int ie_int)) (ia_cons ie_non (ia_cons ie_bl (ia_cons ie_str (ia_cons (ie_tup (ia_cons ie_int ia_nil)) ia_nil))))))) ia_nil))))
  (iss_cons (is_if (it_cmp (op_neD hr.units) (ao_neH T.hK) (ie_call (ok_set T) (hr.mono (by decide)) tk T.m23 T.F23.kp T.b23 .nil gvs_nil (ia_cons (ie_var 1) (ia_cons (ie_var 4) (ia_cons (ie_var 5) ia_nil)))) (ie_fl (ia_cons ie_str (ia_cons (ie_var 4) ia_nil)))) (iss_one (is_ret ie_bl)) iss_nil)
  (iss_cons (is_if (it_cmp (op_neD hr.units) (ao_neH T.hK) (ie_call (ok_set T) (hr.mono (by decide)) tk T.m23 T.F23.kp T.b23 .nil gvs_nil (ia_cons (ie_var 1) (ia_cons (ie_ix ix_seq (ao_ix T.hK) (ie_var 2) ie_int) (ia_cons (ie_var 5) ia_nil)))) (ie_fl (ia_cons ie_str (ia_cons (ie_var 5) ia_nil)))) (iss_one (is_ret ie_bl)) iss_nil)
  (iss_cons (is_if (IW.it (iw_or (it_cmp (op_ownin T.os13_contains (ok_Store__contains T) (hr.mono (by decide)) T.b26) ao_ownin (ie_var 4) (ie_var 1)) (iw_or (it_cmp (op_neD hr.units) (ao_neH T.hK) (ie_meth (ie_var 1) T.n45 T.cl13 T.me13_45 (ok_Store_row T) (hr.mono (by decide)) tk T.b25 .nil gvs_nil (ia_cons (ie_var 4) ia_nil)) (ie_tup ia_nil)) (iw_or1 (it_cmp op_notB (ao_isB true) (ie_meth (ie_var 1) T.n46 T.cl13 T.me13_46 (ok_Store_has_owner T) (hr.mono (by decide)) tk T.b24 .nil gvs_nil (ia_cons (ie_var 4) ia_nil)) ie_bl))))) (iss_one (is_ret ie_bl)) iss_nil)
  (iss_cons (is_if (it_cmp op_notB (ao_isB true) (ie_meth (ie_var 1) T.n46 T.cl13 T.me13_46 (ok_Store_has_owner T) (hr.mono (by decide)) tk T.b24 .nil gvs_nil (ia_cons (ie_ix ix_seq (ao_ix T.hK) (ie_var 2) ie_int) ia_nil)) ie_bl) (iss_one (is_ret ie_bl)) iss_nil)
  (iss_cons (is_if (IW.it (iw_or (it_cmp (op_neD hr.units) (ao_neH T.hK) (ie_call (ok_gone T) (hr.mono (by decide)) tk T.m31 T.F31.kp T.b31 .nil gvs_nil (ia_cons (ie_var 1) (ia_cons (ie_var 4) (ia_cons ie_int ia_nil)))) (ie_fl (ia_cons ie_str (ia_cons (ie_var 4) ia_nil)))) (iw_or1 (it_cmp (op_neD hr.units) (ao_neH T.hK) (ie_call (ok_gone T) (hr.mono (by decide)) tk T.m31 T.F31.kp T.b31 .nil gvs_nil (ia_cons (ie_var 1) (ia_cons (ie_var 4) (ia_cons ie_int ia_nil)))) (ie_fl (ia_cons ie_str (ia_cons (ie_var 4) ia_nil))))))) (iss_one (is_ret ie_bl)) iss_nil)
  (iss_cons (is_if (IW.it (iw_or (it_cmp (op_neD hr.units) (ao_neH T.hK) (ie_call (ok_gone T) (hr.mono (by decide)) tk T.m31 T.F31.kp T.b31 .nil gvs_nil (ia_cons (ie_var 1) (ia_cons (ie_var 4) (ia_cons ie_int ia_nil)))) (ie_fl (ia_cons ie_str (ia_cons (ie_var 4) ia_nil)))) (iw_or1 (it_cmp (op_neD hr.units) (ao_neH T.hK) (ie_fl (ia_cons (ie_meth0 (ie_var 1) T.n47 T.cl13 T.me13_47 (ok_Store_all_rows T) (hr.mono (by decide)) tk T.b17 .nil gvs_nil) (ia_cons (ie_meth0 (ie_var 1) T.n48 T.cl13 T.me13_48 (ok_Store_all_owners T) (hr.mono (by decide)) tk T.b16 .nil gvs_nil) ia_nil))) (ie_var 3))))) (iss_one (is_ret ie_bl)) iss_nil)
  (iss_cons (is_if (IW.it (iw_or (it_cmp op_notN ao_notN (ie_call (ok_set T) (hr.mono (by decide)) tk T.m23 T.F23.kp T.b23 .nil gvs_nil (ia_cons (ie_var 1) (ia_cons (ie_ix ix_seq (ao_ix T.hK) (ie_var 2) ie_int) (ia_cons (ie_op op_sub ao_sub (ie_op op_pow ao_pow ie_int ie_int) ie_int) ia_nil)))) ie_non) (iw_or1 (it_cmp (op_neD hr.units) (ao_neH T.hK) (ie_ownix T.os13_getitem (ok_Store__getitem T) (hr.mono (by decide)) tk T.b28 (ie_var 1) (ie_ix ix_seq (ao_ix T.hK) (ie_var 2) ie_int)) (ie_op op_sub ao_sub (ie_op op_pow ao_pow ie_int ie_int) ie_int))))) (iss_one (is_ret ie_bl)) iss_nil)
  (iss_one (is_ret ie_bl)))))))))))
theorem sc_law : FnScope ["_law_script", "_law_at", "_law_bag_here", "_law_keys_here", "_law_store", "_law_kept", "_law_turn", "_law_rows_here", "_law_names_here", "_law_k", "_law_odd_here", "_law_j", "_law_twice", "_law_key", "_law_value_here"] ["_law_script"] (defScope st_law) := ⟨rfl, rfl, rfl, by decide +kernel, rfl, by decide +kernel, by decide +kernel⟩
theorem ok_law (T : Txt K w mg G fd) : FnOk P w K mg base (L2.CX P w) 8 (G.fa 33) (fd 33) ["_law_script"] (spF G 1 m_law) :=
  ok_fn (B := ⟨0, .none, none, 0⟩) T.F33 sc_law fun cdv A outer s H E zs hr tk => 
  (iss_cons (ns := q12_law) (is_for (ms := l1_law) (passes_of rfl) rfl (ii_range1 T.z_range (ia_cons (ie_callB (call_max2 rfl) ao_max2 rfl T.z_max (by rfl) (ia_cons ie_int (ia_cons (ie_callB (call_min2 rfl) ao_min2 rfl T.z_min (by rfl) (ia_cons ie_int (ia_cons (ie_callB call_len (ao_len T.hK) rfl T.z_len (by rfl) (ia_cons (ie_var 0) ia_nil)) ia_nil))) ia_nil))) ia_nil)) (ig_name 1 sc_law.nd) (iss_cons (ns := q11_law) (is_set 2 sc_law.nd (ie_call (ok_bag T) (hr.mono (by decide)) tk T.m0 T.F0.kp T.b0 .nil gvs_nil (ia_cons (ie_var 0) (ia_cons (ie_var 1) ia_nil))))
  (iss_cons (ns := q10_law) (is_set 3 sc_law.nd (ie_call (ok_keys T) (hr.mono (by decide)) tk T.m4 T.F4.kp T.b4 .nil gvs_nil (ia_cons (ie_var 2) (ia_cons (ie_op op_addA (ao_add T.hK) ie_int (ie_call (ok_take T) (hr.mono (by decide)) tk T.m1 T.F1.kp T.b1 .nil gvs_nil (ia_cons (ie_var 2) (ia_cons ie_int ia_nil)))) ia_nil))))
  (iss_cons (ns := q9_law) (is_par 7 8 sc_law.nd (ia_cons (ie_call (ok_rows T) (hr.mono (by decide)) tk T.m7 T.F7.kp T.b7 .nil gvs_nil (ia_cons (ie_var 2) (ia_cons (ie_var 3) ia_nil))) (ia_cons (ie_call (ok_owners T) (hr.mono (by decide)) tk T.m5 T.F5.kp T.b5 .nil gvs_nil (ia_cons (ie_var 2) (ia_cons (ie_var 3) ia_nil))) ia_nil)))
  (iss_cons (ns := q8_law) (is_set 4 sc_law.nd (ie_mkN T.mk13 (ok_Store__init T) (hr.mono (by decide)) tk T.mc13 T.kb15_0 (ia_cons (ie_var 7) (ia_cons (ie_var 8) ia_nil)) ik_nil))
  (iss_cons (ns := q7_law) (is_set 5 sc_law.nd (ie_fl (ia_cons (ie_meth0 (ie_var 4) T.n47 T.cl13 T.me13_47 (ok_Store_all_rows T) (hr.mono (by decide)) tk T.b17 .nil gvs_nil) (ia_cons (ie_meth0 (ie_var 4) T.n48 T.cl13 T.me13_48 (ok_Store_all_owners T) (hr.mono (by decide)) tk T.b16 .nil gvs_nil) ia_nil))))
  (iss_cons (ns := q6_law) (is_for (ms := l0_law) (passes_of rfl) rfl (ii_range1 T.z_range (ia_cons ie_int ia_nil)) (ig_name 6 sc_law.nd) (iss_cons (ns := q5_law) (is_par 9 10 sc_law.nd (ia_cons (ie_call (ok_take T) (hr.mono (by decide)) tk T.m1 T.F1.kp T.b1 .nil gvs_nil (ia_cons (ie_var 2) (ia_cons ie_int ia_nil))) (ia_cons (ie_call (ok_of T) (hr.mono (by decide)) tk T.m2 T.F2.kp T.b2 .nil gvs_nil (ia_cons (ie_var 2) (ia_cons (ie_fl (ia_cons (ie_call (ok_odd T) (hr.mono (by decide)) tk T.m18 T.F18.kp T.b18 .nil gvs_nil (ia_cons (ie_var 2) ia_nil)) (ia_cons (ie_op op_pow ao_pow ie_int ie_int) (ia_cons (ie_un un_neg ao_neg (ie_op op_pow ao_pow ie_int ie_int)) (ia_cons ie_str ia_nil))))) ia_nil))) ia_nil)))
  (iss_cons (ns := q4_law) (is_if (IW.it (iw_and (it_cmp (op_neD hr.units) (ao_neH T.hK) (ie_var 7) (ie_fl ia_nil)) (iw_and1 (it_cmp (op_eqD hr.units) (ao_eqH T.hK) (ie_var 9) ie_int)))) (iss_cons (ns := q3_law) (is_set 11 sc_law.nd (ie_call (ok_take T) (hr.mono (by decide)) tk T.m1 T.F1.kp T.b1 .nil gvs_nil (ia_cons (ie_var 2) (ia_cons (ie_callB call_len (ao_len T.hK) rfl T.z_len (by rfl) (ia_cons (ie_var 7) ia_nil)) ia_nil))))
  (iss_cons (ns := q2_law) (is_asg (ie_ix ix_seq (ao_ix T.hK) (ie_var 7) (ie_var 11)) (ig_tup T.hK rfl (igs_cons (ig_name 13 sc_law.nd) (igs_cons (ig_name 14 sc_law.nd) igs_nil))))
  (iss_cons (ns := q1_law) (is_set 12 sc_law.nd (ie_tup (ia_cons (ie_ix ix_seq (ao_ix T.hK) (ie_ix ix_seq (ao_ix T.hK) (ie_var 7) (ie_call (ok_take T) (hr.mono (by decide)) tk T.m1 T.F1.kp T.b1 .nil gvs_nil (ia_cons (ie_var 2) (ia_cons (ie_callB call_len (ao_len T.hK) rfl T.z_len (by rfl) (ia_cons (ie_var 7) ia_nil)) ia_nil)))) ie_int) (ia_cons (ie_var 14) ia_nil))))
  (iss_one (is_setix (ie_call (ok_of T) (hr.mono (by decide)) tk T.m2 T.F2.kp T.b2 .nil gvs_nil (ia_cons (ie_var 2) (ia_cons (ie_fl (ia_cons (ie_tup (ia_cons (ie_var 10) (ia_cons (ie_var 14) ia_nil))) (ia_cons (ie_tup (ia_cons (ie_var 13) (ia_cons (ie_var 10) ia_nil))) (ia_cons (ie_var 12) ia_nil)))) ia_nil))) (ie_var 7) (ie_var 11)))))) (iss_one (is_if (it_cmp (op_neD hr.units) (ao_neH T.hK) (ie_var 8) (ie_fl ia_nil)) (iss_one (is_setix (ie_call (ok_of T) (hr.mono (by decide)) tk T.m2 T.F2.kp T.b2 .nil gvs_nil (ia_cons (ie_var 2) (ia_cons (ie_fl (ia_cons (ie_var 10) (ia_cons (ie_ix ix_seq (ao_ix T.hK) (ie_var 3) ie_int) ia_nil))) ia_nil))) (ie_var 8) (ie_call (ok_take T) (hr.mono (by decide)) tk T.m1 T.F1.kp T.b1 .nil gvs_nil (ia_cons (ie_var 2) (ia_cons (ie_callB call_len (ao_len T.hK) rfl T.z_len (by rfl) (ia_cons (ie_var 8) ia_nil)) ia_nil))))) iss_nil)))
  (iss_one (is_if (it_cmp (op_neD hr.units) (ao_neH T.hK) (ie_call (ok_told T) (hr.mono (by decide)) tk T.m19 T.F19.kp T.b19 .nil gvs_nil (ia_cons (ie_var 7) (ia_cons (ie_var 8) ia_nil))) (ie_call (ok_due T) (hr.mono (by decide)) tk T.m21 T.F21.kp T.b21 .nil gvs_nil (ia_cons (ie_var 7) (ia_cons (ie_var 8) (ia_cons (ie_var 3) ia_nil))))) (iss_one (is_ret ie_bl)) iss_nil)))))
  (iss_one (is_if (it_not (it_of (ie_call (ok_in_use T) (hr.mono (by decide)) tk T.m32 T.F32.kp T.b32 .nil gvs_nil (ia_cons (ie_var 2) (ia_cons (ie_var 4) (ia_cons (ie_var 3) (ia_cons (ie_var 5) ia_nil))))))) (iss_one (is_ret ie_bl)) iss_nil)))))))))
  (iss_one (is_ret ie_bl)))
end
end Wk11
namespace Wk11
open PySem PySem.Spec PyProof.Rows L2 ClX PI
theorem all_mk {P : Program} {w : World} {K : PySem.W.Frag} {h : Heap} {mg : Str → Option Value} {fa : Addr} (X : K.In h) (GG : h.Ns mainGlobals mg) (hfa : mg "law" = some (.ref fa))
    {TE15_1 : Addr} {oTE15_1 : Obj} {sTE15_1 : Array Value} {nTE15_1 : Nat}
    {TE15_0 : Addr} {oTE15_0 : Obj} {sTE15_0 : Array Value} {nTE15_0 : Nat}
    {C12 : Addr}
    {C13 : Addr}
    {C1 : Addr}
    {C3 : Addr}
    {f0 : Addr} {od0 an0 : Option Addr} {sl0 : Array (Option Value)} {oc0 kV0 dc0 pm0 cd0 ct0 : Value}
    {f1 : Addr} {od1 an1 : Option Addr} {sl1 : Array (Option Value)} {oc1 kV1 dc1 pm1 cd1 ct1 : Value}
    {f2 : Addr} {od2 an2 : Option Addr} {sl2 : Array (Option Value)} {oc2 kV2 dc2 pm2 cd2 ct2 : Value}
    {f3 : Addr} {od3 an3 : Option Addr} {sl3 : Array (Option Value)} {oc3 kV3 dc3 pm3 cd3 ct3 : Value}
    {f4 : Addr} {od4 an4 : Option Addr} {sl4 : Array (Option Value)} {oc4 kV4 dc4 pm4 cd4 ct4 : Value}
    {f5 : Addr} {od5 an5 : Option Addr} {sl5 : Array (Option Value)} {oc5 kV5 dc5 pm5 cd5 ct5 : Value}
    {f6 : Addr} {od6 an6 : Option Addr} {sl6 : Array (Option Value)} {oc6 kV6 dc6 pm6 cd6 ct6 : Value}
    {f7 : Addr} {od7 an7 : Option Addr} {sl7 : Array (Option Value)} {oc7 kV7 dc7 pm7 cd7 ct7 : Value}
    {f8 : Addr} {od8 an8 : Option Addr} {sl8 : Array (Option Value)} {oc8 kV8 dc8 pm8 cd8 ct8 : Value}
    {f9 : Addr} {od9 an9 : Option Addr} {sl9 : Array (Option Value)} {oc9 kV9 dc9 pm9 cd9 ct9 : Value}
    {f10 : Addr} {od10 an10 : Option Addr} {sl10 : Array (Option Value)} {oc10 kV10 dc10 pm10 cd10 ct10 : Value}
    {f11 : Addr} {od11 an11 : Option Addr} {sl11 : Array (Option Value)} {oc11 kV11 dc11 pm11 cd11 ct11 : Value}
    {f12 : Addr} {od12 an12 : Option Addr} {sl12 : Array (Option Value)} {oc12 kV12 dc12 pm12 cd12 ct12 : Value}
    {f13 : Addr} {od13 an13 : Option Addr} {sl13 : Array (Option Value)} {oc13 kV13 dc13 pm13 cd13 ct13 : Value}
    {f14 : Addr} {od14 an14 : Option Addr} {sl14 : Array (Option Value)} {oc14 kV14 dc14 pm14 cd14 ct14 : Value}
    {f15 : Addr} {od15 an15 : Option Addr} {sl15 : Array (Option Value)} {oc15 kV15 dc15 pm15 cd15 ct15 : Value}
    {dT15 : Addr} {dO15 : Obj} {dA15 : Array Value} {dN15 : Nat}
    {f16 : Addr} {od16 an16 : Option Addr} {sl16 : Array (Option Value)} {oc16 kV16 dc16 pm16 cd16 ct16 : Value}
    {f17 : Addr} {od17 an17 : Option Addr} {sl17 : Array (Option Value)} {oc17 kV17 dc17 pm17 cd17 ct17 : Value}
    {f18 : Addr} {od18 an18 : Option Addr} {sl18 : Array (Option Value)} {oc18 kV18 dc18 pm18 cd18 ct18 : Value}
    {f19 : Addr} {od19 an19 : Option Addr} {sl19 : Array (Option Value)} {oc19 kV19 dc19 pm19 cd19 ct19 : Value}
    {f20 : Addr} {od20 an20 : Option Addr} {sl20 : Array (Option Value)} {oc20 kV20 dc20 pm20 cd20 ct20 : Value}
    {f21 : Addr} {od21 an21 : Option Addr} {sl21 : Array (Option Value)} {oc21 kV21 dc21 pm21 cd21 ct21 : Value}
    {f22 : Addr} {od22 an22 : Option Addr} {sl22 : Array (Option Value)} {oc22 kV22 dc22 pm22 cd22 ct22 : Value}
    {f23 : Addr} {od23 an23 : Option Addr} {sl23 : Array (Option Value)} {oc23 kV23 dc23 pm23 cd23 ct23 : Value}
    {f24 : Addr} {od24 an24 : Option Addr} {sl24 : Array (Option Value)} {oc24 kV24 dc24 pm24 cd24 ct24 : Value}
    {f25 : Addr} {od25 an25 : Option Addr} {sl25 : Array (Option Value)} {oc25 kV25 dc25 pm25 cd25 ct25 : Value}
    {f26 : Addr} {od26 an26 : Option Addr} {sl26 : Array (Option Value)} {oc26 kV26 dc26 pm26 cd26 ct26 : Value}
    {f27 : Addr} {od27 an27 : Option Addr} {sl27 : Array (Option Value)} {oc27 kV27 dc27 pm27 cd27 ct27 : Value}
    {f28 : Addr} {od28 an28 : Option Addr} {sl28 : Array (Option Value)} {oc28 kV28 dc28 pm28 cd28 ct28 : Value}
    {f29 : Addr} {od29 an29 : Option Addr} {sl29 : Array (Option Value)} {oc29 kV29 dc29 pm29 cd29 ct29 : Value}
    {f30 : Addr} {od30 an30 : Option Addr} {sl30 : Array (Option Value)} {oc30 kV30 dc30 pm30 cd30 ct30 : Value}
    {f31 : Addr} {od31 an31 : Option Addr} {sl31 : Array (Option Value)} {oc31 kV31 dc31 pm31 cd31 ct31 : Value}
    {f32 : Addr} {od32 an32 : Option Addr} {sl32 : Array (Option Value)} {oc32 kV32 dc32 pm32 cd32 ct32 : Value}
    {f33 : Addr} {od33 an33 : Option Addr} {sl33 : Array (Option Value)} {oc33 kV33 dc33 pm33 cd33 ct33 : Value}
    {tk_GREATEST : Tok}
    {tk_LETTERS : Tok}
    {tk_MOST_SIGNS : Tok}
    {xm1 xq1 : Str} {xN1 : Addr} {xb1 xr1 : List Value} {xs1 : List Str} {xu1 : List Value} {xa1 : Bool} {xc1 : Option Bool} {xd1 : Option Addr} {x01 x11 x21 x31 x51 : Option Value}
    {xm3 xq3 : Str} {xN3 : Addr} {xb3 xr3 : List Value} {xs3 : List Str} {xu3 : List Value} {xa3 : Bool} {xc3 : Option Bool} {xd3 : Option Addr} {x03 x13 x23 x33 x53 : Option Value}
    (g12 : PySem.W.nsIn K mainGlobals "Content" = some (some (.ref C12)))
    (g13 : PySem.W.nsIn K mainGlobals "Store" = some (some (.ref C13)))
    (g1 : PySem.W.nsIn K mainGlobals "InvalidPart" = some (some (.ref C1)))
    (g3 : PySem.W.nsIn K mainGlobals "Missing" = some (some (.ref C3)))
    (a0 : PySem.W.nsIn K mainGlobals "_law_bag" = some (some (.ref f0)))
    (l0 : K.lookup f0 = some ⟨oc0, od0, .func (PySem.W.fnOf "_law_bag" "_law_bag" (defArgs st_bag) (defBody st_bag) (defScope st_bag) .none kV0 dc0 pm0 an0 cd0 ct0), sl0⟩)
    (c0 : PySem.W.codeIn K cd0 "_law_bag" = true)
    (k0 : PySem.W.keepIn K (.ref f0) = true)
    (a1 : PySem.W.nsIn K mainGlobals "_law_take" = some (some (.ref f1)))
    (l1 : K.lookup f1 = some ⟨oc1, od1, .func (PySem.W.fnOf "_law_take" "_law_take" (defArgs st_take) (defBody st_take) (defScope st_take) .none kV1 dc1 pm1 an1 cd1 ct1), sl1⟩)
    (c1 : PySem.W.codeIn K cd1 "_law_take" = true)
    (k1 : PySem.W.keepIn K (.ref f1) = true)
    (a2 : PySem.W.nsIn K mainGlobals "_law_of" = some (some (.ref f2)))
    (l2 : K.lookup f2 = some ⟨oc2, od2, .func (PySem.W.fnOf "_law_of" "_law_of" (defArgs st_of) (defBody st_of) (defScope st_of) .none kV2 dc2 pm2 an2 cd2 ct2), sl2⟩)
    (c2 : PySem.W.codeIn K cd2 "_law_of" = true)
    (k2 : PySem.W.keepIn K (.ref f2) = true)
    (a3 : PySem.W.nsIn K mainGlobals "_law_names" = some (some (.ref f3)))
    (l3 : K.lookup f3 = some ⟨oc3, od3, .func (PySem.W.fnOf "_law_names" "_law_names" (defArgs st_names) (defBody st_names) (defScope st_names) .none kV3 dc3 pm3 an3 cd3 ct3), sl3⟩)
    (c3 : PySem.W.codeIn K cd3 "_law_names" = true)
    (k3 : PySem.W.keepIn K (.ref f3) = true)
    (a4 : PySem.W.nsIn K mainGlobals "_law_keys" = some (some (.ref f4)))
    (l4 : K.lookup f4 = some ⟨oc4, od4, .func (PySem.W.fnOf "_law_keys" "_law_keys" (defArgs st_keys) (defBody st_keys) (defScope st_keys) .none kV4 dc4 pm4 an4 cd4 ct4), sl4⟩)
    (c4 : PySem.W.codeIn K cd4 "_law_keys" = true)
    (k4 : PySem.W.keepIn K (.ref f4) = true)
    (a5 : PySem.W.nsIn K mainGlobals "_law_owners" = some (some (.ref f5)))
    (l5 : K.lookup f5 = some ⟨oc5, od5, .func (PySem.W.fnOf "_law_owners" "_law_owners" (defArgs st_owners) (defBody st_owners) (defScope st_owners) .none kV5 dc5 pm5 an5 cd5 ct5), sl5⟩)
    (c5 : PySem.W.codeIn K cd5 "_law_owners" = true)
    (k5 : PySem.W.keepIn K (.ref f5) = true)
    (a6 : PySem.W.nsIn K mainGlobals "_law_integer" = some (some (.ref f6)))
    (l6 : K.lookup f6 = some ⟨oc6, od6, .func (PySem.W.fnOf "_law_integer" "_law_integer" (defArgs st_integer) (defBody st_integer) (defScope st_integer) .none kV6 dc6 pm6 an6 cd6 ct6), sl6⟩)
    (c6 : PySem.W.codeIn K cd6 "_law_integer" = true)
    (k6 : PySem.W.keepIn K (.ref f6) = true)
    (a7 : PySem.W.nsIn K mainGlobals "_law_rows" = some (some (.ref f7)))
    (l7 : K.lookup f7 = some ⟨oc7, od7, .func (PySem.W.fnOf "_law_rows" "_law_rows" (defArgs st_rows) (defBody st_rows) (defScope st_rows) .none kV7 dc7 pm7 an7 cd7 ct7), sl7⟩)
    (c7 : PySem.W.codeIn K cd7 "_law_rows" = true)
    (k7 : PySem.W.keepIn K (.ref f7) = true)
    (a8 : PySem.W.nsIn K mainGlobals "is_name" = some (some (.ref f8)))
    (l8 : K.lookup f8 = some ⟨oc8, od8, .func (PySem.W.fnOf "is_name" "is_name" (defArgs st_is_name) (defBody st_is_name) (defScope st_is_name) .none kV8 dc8 pm8 an8 cd8 ct8), sl8⟩)
    (c8 : PySem.W.codeIn K cd8 "is_name" = true)
    (k8 : PySem.W.keepIn K (.ref f8) = true)
    (a9 : PySem.W.nsIn K mainGlobals "is_key" = some (some (.ref f9)))
    (l9 : K.lookup f9 = some ⟨oc9, od9, .func (PySem.W.fnOf "is_key" "is_key" (defArgs st_is_key) (defBody st_is_key) (defScope st_is_key) .none kV9 dc9 pm9 an9 cd9 ct9), sl9⟩)
    (c9 : PySem.W.codeIn K cd9 "is_key" = true)
    (k9 : PySem.W.keepIn K (.ref f9) = true)
    (a10 : PySem.W.findIn K (.ref C1) "__init__" = some (some (.ref f10)))
    (l10 : K.lookup f10 = some ⟨oc10, od10, .func (PySem.W.fnOf "__init__" "InvalidPart.__init__" (defArgs st_InvalidPart__init) (defBody st_InvalidPart__init) (defScope st_InvalidPart__init) .none kV10 dc10 pm10 an10 cd10 ct10), sl10⟩)
    (c10 : PySem.W.codeIn K cd10 "InvalidPart.__init__" = true)
    (k10 : PySem.W.keepIn K (.ref f10) = true)
    (a11 : PySem.W.nsIn K mainGlobals "is_integer" = some (some (.ref f11)))
    (l11 : K.lookup f11 = some ⟨oc11, od11, .func (PySem.W.fnOf "is_integer" "is_integer" (defArgs st_is_integer) (defBody st_is_integer) (defScope st_is_integer) .none kV11 dc11 pm11 an11 cd11 ct11), sl11⟩)
    (c11 : PySem.W.codeIn K cd11 "is_integer" = true)
    (k11 : PySem.W.keepIn K (.ref f11) = true)
    (a12 : PySem.W.nsIn K mainGlobals "checked_rows" = some (some (.ref f12)))
    (l12 : K.lookup f12 = some ⟨oc12, od12, .func (PySem.W.fnOf "checked_rows" "checked_rows" (defArgs st_checked_rows) (defBody st_checked_rows) (defScope st_checked_rows) .none kV12 dc12 pm12 an12 cd12 ct12), sl12⟩)
    (c12 : PySem.W.codeIn K cd12 "checked_rows" = true)
    (k12 : PySem.W.keepIn K (.ref f12) = true)
    (a13 : PySem.W.nsIn K mainGlobals "owner_of" = some (some (.ref f13)))
    (l13 : K.lookup f13 = some ⟨oc13, od13, .func (PySem.W.fnOf "owner_of" "owner_of" (defArgs st_owner_of) (defBody st_owner_of) (defScope st_owner_of) .none kV13 dc13 pm13 an13 cd13 ct13), sl13⟩)
    (c13 : PySem.W.codeIn K cd13 "owner_of" = true)
    (k13 : PySem.W.keepIn K (.ref f13) = true)
    (a14 : PySem.W.nsIn K mainGlobals "checked_owners" = some (some (.ref f14)))
    (l14 : K.lookup f14 = some ⟨oc14, od14, .func (PySem.W.fnOf "checked_owners" "checked_owners" (defArgs st_checked_owners) (defBody st_checked_owners) (defScope st_checked_owners) .none kV14 dc14 pm14 an14 cd14 ct14), sl14⟩)
    (c14 : PySem.W.codeIn K cd14 "checked_owners" = true)
    (k14 : PySem.W.keepIn K (.ref f14) = true)
    (a15 : PySem.W.findIn K (.ref C13) "__init__" = some (some (.ref f15)))
    (l15 : K.lookup f15 = some ⟨oc15, od15, .func (PySem.W.fnOf "__init__" "Store.__init__" (defArgs st_Store__init) (defBody st_Store__init) (defScope st_Store__init) (.ref dT15) kV15 dc15 pm15 an15 cd15 ct15), sl15⟩)
    (dl15_ : K.lookup dT15 = some dO15)
    (dd15_ : dO15.data = .seq dA15 dN15)
    (dr15_ : Vals [V.ref TE15_0, V.ref TE15_1] dA15.toList)
    (c15 : PySem.W.codeIn K cd15 "Store.__init__" = true)
    (k15 : PySem.W.keepIn K (.ref f15) = true)
    (a16 : PySem.W.findIn K (.ref C13) "all_owners" = some (some (.ref f16)))
    (l16 : K.lookup f16 = some ⟨oc16, od16, .func (PySem.W.fnOf "all_owners" "Store.all_owners" (defArgs st_Store_all_owners) (defBody st_Store_all_owners) (defScope st_Store_all_owners) .none kV16 dc16 pm16 an16 cd16 ct16), sl16⟩)
    (c16 : PySem.W.codeIn K cd16 "Store.all_owners" = true)
    (k16 : PySem.W.keepIn K (.ref f16) = true)
    (a17 : PySem.W.findIn K (.ref C13) "all_rows" = some (some (.ref f17)))
    (l17 : K.lookup f17 = some ⟨oc17, od17, .func (PySem.W.fnOf "all_rows" "Store.all_rows" (defArgs st_Store_all_rows) (defBody st_Store_all_rows) (defScope st_Store_all_rows) .none kV17 dc17 pm17 an17 cd17 ct17), sl17⟩)
    (c17 : PySem.W.codeIn K cd17 "Store.all_rows" = true)
    (k17 : PySem.W.keepIn K (.ref f17) = true)
    (a18 : PySem.W.nsIn K mainGlobals "_law_odd" = some (some (.ref f18)))
    (l18 : K.lookup f18 = some ⟨oc18, od18, .func (PySem.W.fnOf "_law_odd" "_law_odd" (defArgs st_odd) (defBody st_odd) (defScope st_odd) .none kV18 dc18 pm18 an18 cd18 ct18), sl18⟩)
    (c18 : PySem.W.codeIn K cd18 "_law_odd" = true)
    (k18 : PySem.W.keepIn K (.ref f18) = true)
    (a19 : PySem.W.nsIn K mainGlobals "_law_told" = some (some (.ref f19)))
    (l19 : K.lookup f19 = some ⟨oc19, od19, .func (PySem.W.fnOf "_law_told" "_law_told" (defArgs st_told) (defBody st_told) (defScope st_told) .none kV19 dc19 pm19 an19 cd19 ct19), sl19⟩)
    (c19 : PySem.W.codeIn K cd19 "_law_told" = true)
    (k19 : PySem.W.keepIn K (.ref f19) = true)
    (a20 : PySem.W.nsIn K mainGlobals "_law_is_value" = some (some (.ref f20)))
    (l20 : K.lookup f20 = some ⟨oc20, od20, .func (PySem.W.fnOf "_law_is_value" "_law_is_value" (defArgs st_is_value) (defBody st_is_value) (defScope st_is_value) .none kV20 dc20 pm20 an20 cd20 ct20), sl20⟩)
    (c20 : PySem.W.codeIn K cd20 "_law_is_value" = true)
    (k20 : PySem.W.keepIn K (.ref f20) = true)
    (a21 : PySem.W.nsIn K mainGlobals "_law_due" = some (some (.ref f21)))
    (l21 : K.lookup f21 = some ⟨oc21, od21, .func (PySem.W.fnOf "_law_due" "_law_due" (defArgs st_due) (defBody st_due) (defScope st_due) .none kV21 dc21 pm21 an21 cd21 ct21), sl21⟩)
    (c21 : PySem.W.codeIn K cd21 "_law_due" = true)
    (k21 : PySem.W.keepIn K (.ref f21) = true)
    (a22 : PySem.W.findIn K (.ref C13) "__setitem__" = some (some (.ref f22)))
    (l22 : K.lookup f22 = some ⟨oc22, od22, .func (PySem.W.fnOf "__setitem__" "Store.__setitem__" (defArgs st_Store__setitem) (defBody st_Store__setitem) (defScope st_Store__setitem) .none kV22 dc22 pm22 an22 cd22 ct22), sl22⟩)
    (c22 : PySem.W.codeIn K cd22 "Store.__setitem__" = true)
    (k22 : PySem.W.keepIn K (.ref f22) = true)
    (a23 : PySem.W.nsIn K mainGlobals "_law_set" = some (some (.ref f23)))
    (l23 : K.lookup f23 = some ⟨oc23, od23, .func (PySem.W.fnOf "_law_set" "_law_set" (defArgs st_set) (defBody st_set) (defScope st_set) .none kV23 dc23 pm23 an23 cd23 ct23), sl23⟩)
    (c23 : PySem.W.codeIn K cd23 "_law_set" = true)
    (k23 : PySem.W.keepIn K (.ref f23) = true)
    (a24 : PySem.W.findIn K (.ref C13) "has_owner" = some (some (.ref f24)))
    (l24 : K.lookup f24 = some ⟨oc24, od24, .func (PySem.W.fnOf "has_owner" "Store.has_owner" (defArgs st_Store_has_owner) (defBody st_Store_has_owner) (defScope st_Store_has_owner) .none kV24 dc24 pm24 an24 cd24 ct24), sl24⟩)
    (c24 : PySem.W.codeIn K cd24 "Store.has_owner" = true)
    (k24 : PySem.W.keepIn K (.ref f24) = true)
    (a25 : PySem.W.findIn K (.ref C13) "row" = some (some (.ref f25)))
    (l25 : K.lookup f25 = some ⟨oc25, od25, .func (PySem.W.fnOf "row" "Store.row" (defArgs st_Store_row) (defBody st_Store_row) (defScope st_Store_row) .none kV25 dc25 pm25 an25 cd25 ct25), sl25⟩)
    (c25 : PySem.W.codeIn K cd25 "Store.row" = true)
    (k25 : PySem.W.keepIn K (.ref f25) = true)
    (a26 : PySem.W.findIn K (.ref C13) "__contains__" = some (some (.ref f26)))
    (l26 : K.lookup f26 = some ⟨oc26, od26, .func (PySem.W.fnOf "__contains__" "Store.__contains__" (defArgs st_Store__contains) (defBody st_Store__contains) (defScope st_Store__contains) .none kV26 dc26 pm26 an26 cd26 ct26), sl26⟩)
    (c26 : PySem.W.codeIn K cd26 "Store.__contains__" = true)
    (k26 : PySem.W.keepIn K (.ref f26) = true)
    (a27 : PySem.W.findIn K (.ref C3) "__init__" = some (some (.ref f27)))
    (l27 : K.lookup f27 = some ⟨oc27, od27, .func (PySem.W.fnOf "__init__" "Missing.__init__" (defArgs st_Missing__init) (defBody st_Missing__init) (defScope st_Missing__init) .none kV27 dc27 pm27 an27 cd27 ct27), sl27⟩)
    (c27 : PySem.W.codeIn K cd27 "Missing.__init__" = true)
    (k27 : PySem.W.keepIn K (.ref f27) = true)
    (a28 : PySem.W.findIn K (.ref C13) "__getitem__" = some (some (.ref f28)))
    (l28 : K.lookup f28 = some ⟨oc28, od28, .func (PySem.W.fnOf "__getitem__" "Store.__getitem__" (defArgs st_Store__getitem) (defBody st_Store__getitem) (defScope st_Store__getitem) .none kV28 dc28 pm28 an28 cd28 ct28), sl28⟩)
    (c28 : PySem.W.codeIn K cd28 "Store.__getitem__" = true)
    (k28 : PySem.W.keepIn K (.ref f28) = true)
    (a29 : PySem.W.findIn K (.ref C13) "drop" = some (some (.ref f29)))
    (l29 : K.lookup f29 = some ⟨oc29, od29, .func (PySem.W.fnOf "drop" "Store.drop" (defArgs st_Store_drop) (defBody st_Store_drop) (defScope st_Store_drop) .none kV29 dc29 pm29 an29 cd29 ct29), sl29⟩)
    (c29 : PySem.W.codeIn K cd29 "Store.drop" = true)
    (k29 : PySem.W.keepIn K (.ref f29) = true)
    (a30 : PySem.W.findIn K (.ref C13) "bear" = some (some (.ref f30)))
    (l30 : K.lookup f30 = some ⟨oc30, od30, .func (PySem.W.fnOf "bear" "Store.bear" (defArgs st_Store_bear) (defBody st_Store_bear) (defScope st_Store_bear) .none kV30 dc30 pm30 an30 cd30 ct30), sl30⟩)
    (c30 : PySem.W.codeIn K cd30 "Store.bear" = true)
    (k30 : PySem.W.keepIn K (.ref f30) = true)
    (a31 : PySem.W.nsIn K mainGlobals "_law_gone" = some (some (.ref f31)))
    (l31 : K.lookup f31 = some ⟨oc31, od31, .func (PySem.W.fnOf "_law_gone" "_law_gone" (defArgs st_gone) (defBody st_gone) (defScope st_gone) .none kV31 dc31 pm31 an31 cd31 ct31), sl31⟩)
    (c31 : PySem.W.codeIn K cd31 "_law_gone" = true)
    (k31 : PySem.W.keepIn K (.ref f31) = true)
    (a32 : PySem.W.nsIn K mainGlobals "_law_in_use" = some (some (.ref f32)))
    (l32 : K.lookup f32 = some ⟨oc32, od32, .func (PySem.W.fnOf "_law_in_use" "_law_in_use" (defArgs st_in_use) (defBody st_in_use) (defScope st_in_use) .none kV32 dc32 pm32 an32 cd32 ct32), sl32⟩)
    (c32 : PySem.W.codeIn K cd32 "_law_in_use" = true)
    (k32 : PySem.W.keepIn K (.ref f32) = true)
    (a33 : PySem.W.nsIn K mainGlobals "law" = some (some (.ref f33)))
    (l33 : K.lookup f33 = some ⟨oc33, od33, .func (PySem.W.fnOf "law" "law" (defArgs st_law) (defBody st_law) (defScope st_law) .none kV33 dc33 pm33 an33 cd33 ct33), sl33⟩)
    (c33 : PySem.W.codeIn K cd33 "law" = true)
    (k33 : PySem.W.keepIn K (.ref f33) = true)
    (gc_GREATEST : PySem.W.nsIn K mainGlobals "GREATEST" = some (some (.int (999999999999999999999999999999) tk_GREATEST)))
    (gc_LETTERS : PySem.W.nsIn K mainGlobals "LETTERS" = some (some (.str "abcdefghijklmnopqrstuvwxyz" tk_LETTERS)))
    (gc_MOST_SIGNS : PySem.W.nsIn K mainGlobals "MOST_SIGNS" = some (some (.int (8) tk_MOST_SIGNS)))
    (z_abs : PySem.W.nsIn K mainGlobals "abs" = some none)
    (z_bool : PySem.W.nsIn K mainGlobals "bool" = some none)
    (z_dict : PySem.W.nsIn K mainGlobals "dict" = some none)
    (z_enumerate : PySem.W.nsIn K mainGlobals "enumerate" = some none)
    (z_int : PySem.W.nsIn K mainGlobals "int" = some none)
    (z_isinstance : PySem.W.nsIn K mainGlobals "isinstance" = some none)
    (z_len : PySem.W.nsIn K mainGlobals "len" = some none)
    (z_list : PySem.W.nsIn K mainGlobals "list" = some none)
    (z_max : PySem.W.nsIn K mainGlobals "max" = some none)
    (z_min : PySem.W.nsIn K mainGlobals "min" = some none)
    (z_range : PySem.W.nsIn K mainGlobals "range" = some none)
    (z_sorted : PySem.W.nsIn K mainGlobals "sorted" = some none)
    (z_str : PySem.W.nsIn K mainGlobals "str" = some none)
    (pg12 : PySem.W.plainGet K C12 Str.empty = true)
    (hd12 : PySem.W.hasDictIn K C12 = true)
    (po12 : PySem.W.plainOver K C12 = true)
    (sa12 : PySem.W.findIn K (.ref C12) "__setattr__" = some (some (.builtin "object.__setattr__")))
    (pg13 : PySem.W.plainGet K C13 Str.empty = true)
    (hd13 : PySem.W.hasDictIn K C13 = true)
    (po13 : PySem.W.plainOver K C13 = true)
    (sa13 : PySem.W.findIn K (.ref C13) "__setattr__" = some (some (.builtin "object.__setattr__")))
    (no12_43 : PySem.W.findIn K (.ref C12) "born" = some none)
    (no12_42 : PySem.W.findIn K (.ref C12) "kept" = some none)
    (no13_43 : PySem.W.findIn K (.ref C13) "born" = some none)
    (no13_42 : PySem.W.findIn K (.ref C13) "kept" = some none)
    (mm13 : PySem.W.makesIn K C13 = true)
    (mi13 : PySem.W.findIn K (.ref C13) "__init__" = some (some (.ref f15)))
    (mf13 : PySem.W.isFn K (.ref f15) = true)
    (mp13 : PySem.W.keepIn K (.ref C13) = true)
    (ea13_48 : PySem.W.findIn K (.ref C13) "all_owners" = some (some (.ref f16)))
    (ef13_48 : PySem.W.isFn K (.ref f16) = true)
    (ea13_47 : PySem.W.findIn K (.ref C13) "all_rows" = some (some (.ref f17)))
    (ef13_47 : PySem.W.isFn K (.ref f17) = true)
    (ea13_51 : PySem.W.findIn K (.ref C13) "bear" = some (some (.ref f30)))
    (ef13_51 : PySem.W.isFn K (.ref f30) = true)
    (ea13_52 : PySem.W.findIn K (.ref C13) "drop" = some (some (.ref f29)))
    (ef13_52 : PySem.W.isFn K (.ref f29) = true)
    (ea13_46 : PySem.W.findIn K (.ref C13) "has_owner" = some (some (.ref f24)))
    (ef13_46 : PySem.W.isFn K (.ref f24) = true)
    (ea13_45 : PySem.W.findIn K (.ref C13) "row" = some (some (.ref f25)))
    (ef13_45 : PySem.W.isFn K (.ref f25) = true)
    (xL1 : K.lookup C1 = some (excClassObj xm1 xq1 C1 xN1 xb1 xr1 true xs1 xu1 xa1 xc1 xd1 x01 x11 x21 x31 x51 "ValueError.__new__"))
    (xR1 : PySem.HandSPX.refsVE xr1 = true)
    (xS1 : PySem.W.findIn K (.ref C1) "__setattr__" = some (some (.builtin "object.__setattr__")))
    (xE1 : PySem.W.subIn K (.ref C1) (.type "BaseException") = some true)
    (xT1 : PySem.W.typeIn K (.ref C1) = some (.type "type"))
    (xK1 : PySem.W.keepIn K (.ref C1) = true)
    (xI1 : PySem.W.findIn K (.ref C1) "__init__" = some (some (.ref f10)))
    (xF1 : PySem.W.typeIn K (.ref f10) = some (.type "function"))
    (xn1_0 : PySem.W.findIn K (.ref C1) "part" = some none)
    (xn1_1 : PySem.W.findIn K (.ref C1) "thing" = some none)
    (xL3 : K.lookup C3 = some (excClassObj xm3 xq3 C3 xN3 xb3 xr3 true xs3 xu3 xa3 xc3 xd3 x03 x13 x23 x33 x53 "ValueError.__new__"))
    (xR3 : PySem.HandSPX.refsVE xr3 = true)
    (xS3 : PySem.W.findIn K (.ref C3) "__setattr__" = some (some (.builtin "object.__setattr__")))
    (xE3 : PySem.W.subIn K (.ref C3) (.type "BaseException") = some true)
    (xT3 : PySem.W.typeIn K (.ref C3) = some (.type "type"))
    (xK3 : PySem.W.keepIn K (.ref C3) = true)
    (xI3 : PySem.W.findIn K (.ref C3) "__init__" = some (some (.ref f27)))
    (xF3 : PySem.W.typeIn K (.ref f27) = some (.type "function"))
    (xn3_4 : PySem.W.findIn K (.ref C3) "key" = some none)
    (sa13_contains : PySem.W.findIn K (.ref C13) "__contains__" = some (some (.ref f26)))
    (sf13_contains : PySem.W.isFn K (.ref f26) = true)
    (si13_contains : PySem.W.fnIn K f26 = true)
    (sq13_contains : PySem.W.noSeq K C13 = true)
    (sa13_getitem : PySem.W.findIn K (.ref C13) "__getitem__" = some (some (.ref f28)))
    (sf13_getitem : PySem.W.isFn K (.ref f28) = true)
    (si13_getitem : PySem.W.fnIn K f28 = true)
    (sq13_getitem : PySem.W.noSeq K C13 = true)
    (sa13_setitem : PySem.W.findIn K (.ref C13) "__setitem__" = some (some (.ref f22)))
    (sf13_setitem : PySem.W.isFn K (.ref f22) = true)
    (si13_setitem : PySem.W.fnIn K f22 = true)
    (sq13_setitem : PySem.W.noSeq K C13 = true)
    (yg1 : PySem.W.findIn K (.ref C1) "__getattribute__" = some (some (.builtin "BaseException.__getattribute__")))
    (yk1 : PySem.W.findIn K (.ref C1) "__getattr__" = some none)
    (yd1 : PySem.W.hasDictIn K C1 = true)
    (yc1 : (PySem.W.clsIn K C1).isSome = true)
    (ys1 : PySem.W.subIn K (.ref C1) (.type "BaseException") = some true)
    (ya1 : PySem.W.findIn K (.ref C1) "__class__" = some (some (.builtin "object.__class__")))
    (yn1 : PySem.W.specialIn K (.builtin "object.__class__") "__get__" = some (some (.builtin "getset_descriptor.__get__")))
    (yt1 : PySem.W.takesIn K (.builtin "object.__class__") = some true)
    (ym1 : PySem.W.mroIn K C1 (.type "object") = some true)
    (yg3 : PySem.W.findIn K (.ref C3) "__getattribute__" = some (some (.builtin "BaseException.__getattribute__")))
    (yk3 : PySem.W.findIn K (.ref C3) "__getattr__" = some none)
    (yd3 : PySem.W.hasDictIn K C3 = true)
    (yc3 : (PySem.W.clsIn K C3).isSome = true)
    (ys3 : PySem.W.subIn K (.ref C3) (.type "BaseException") = some true)
    (ya3 : PySem.W.findIn K (.ref C3) "__class__" = some (some (.builtin "object.__class__")))
    (yn3 : PySem.W.specialIn K (.builtin "object.__class__") "__get__" = some (some (.builtin "getset_descriptor.__get__")))
    (yt3 : PySem.W.takesIn K (.builtin "object.__class__") = some true)
    (ym3 : PySem.W.mroIn K C3 (.type "object") = some true)
    (yo1_0 : PySem.W.findIn K (.ref C1) "part" = some none)
    (yo1_1 : PySem.W.findIn K (.ref C1) "thing" = some none)
    (yo3_4 : PySem.W.findIn K (.ref C3) "key" = some none)
    (mt1_1 : PySem.W.exmOne K (.ref C1) (.ref C1) = some true)
    (mt1_3 : PySem.W.exmOne K (.ref C3) (.ref C1) = some false)
    (mt3_1 : PySem.W.exmOne K (.ref C1) (.ref C3) = some false)
    (mt3_3 : PySem.W.exmOne K (.ref C3) (.ref C3) = some true)
    (ko12_13 : PySem.W.kitOne K (.ref C13) (.ref C12) = some false)
    (kg12_NoneType : PySem.W.kitOne K (.type "NoneType") (.ref C12) = some false)
    (kg12_bool : PySem.W.kitOne K (.type "bool") (.ref C12) = some false)
    (kg12_int : PySem.W.kitOne K (.type "int") (.ref C12) = some false)
    (kg12_str : PySem.W.kitOne K (.type "str") (.ref C12) = some false)
    (kg12_tuple : PySem.W.kitOne K (.type "tuple") (.ref C12) = some false)
    (kg12_list : PySem.W.kitOne K (.type "list") (.ref C12) = some false)
    (kg12_dict : PySem.W.kitOne K (.type "dict") (.ref C12) = some false)
    (ia13 : PySem.W.findIn K (.ref C13) "__class__" = some (some (.builtin "object.__class__")))
    (in13 : PySem.W.specialIn K (.builtin "object.__class__") "__get__" = some (some (.builtin "getset_descriptor.__get__")))
    (it13 : PySem.W.takesIn K (.builtin "object.__class__") = some true)
    (im13 : PySem.W.mroIn K C13 (.type "object") = some true)
    (kf12_1 : PySem.W.kitOne K (.ref C1) (.ref C12) = some false)
    (kf12_3 : PySem.W.kitOne K (.ref C3) (.ref C12) = some false)
    (tle15_0 : K.lookup TE15_0 = some oTE15_0)
    (tce15_0 : oTE15_0.cls = .type "tuple")
    (tde15_0 : oTE15_0.data = .seq sTE15_0 nTE15_0)
    (tze15_0 : sTE15_0.size ≤ sizeLine)
    (tve15_0 : Vals [] sTE15_0.toList)
    (tle15_1 : K.lookup TE15_1 = some oTE15_1)
    (tce15_1 : oTE15_1.cls = .type "tuple")
    (tde15_1 : oTE15_1.data = .seq sTE15_1 nTE15_1)
    (tze15_1 : sTE15_1.size ≤ sizeLine)
    (tve15_1 : Vals [] sTE15_1.toList)
    : ∃ fd : FuncData, (∀ (s : Shared) (v : Value), BindsTo s fd ⟨[v], []⟩ [("_law_script", v)]) ∧ ∀ base : Heap, K.In base → base.Ns mainGlobals mg → ∃ G : Gx, K = G.K ∧ FnOk P w K mg base (L2.CX P w) 8 fa fd ["_law_script"] (spF G 1 m_law) := by
  have e := hfa.symm.trans (PySem.W.mg_of X GG a33)
  cases e
  have F0 := fun_mk (st := st_bag) l0 c0 k0
  have F1 := fun_mk (st := st_take) l1 c1 k1
  have F2 := fun_mk (st := st_of) l2 c2 k2
  have F3 := fun_mk (st := st_names) l3 c3 k3
  have F4 := fun_mk (st := st_keys) l4 c4 k4
  have F5 := fun_mk (st := st_owners) l5 c5 k5
  have F6 := fun_mk (st := st_integer) l6 c6 k6
  have F7 := fun_mk (st := st_rows) l7 c7 k7
  have F8 := fun_mk (st := st_is_name) l8 c8 k8
  have F9 := fun_mk (st := st_is_key) l9 c9 k9
  have F10 := fun_mk (st := st_InvalidPart__init) l10 c10 k10
  have F11 := fun_mk (st := st_is_integer) l11 c11 k11
  have F12 := fun_mk (st := st_checked_rows) l12 c12 k12
  have F13 := fun_mk (st := st_owner_of) l13 c13 k13
  have F14 := fun_mk (st := st_checked_owners) l14 c14 k14
  have F15 : FunD K "__init__" "Store.__init__" (defArgs st_Store__init) (defBody st_Store__init) (defScope st_Store__init) ([V.ref TE15_0, V.ref TE15_1] : List V) [] f15 _ := ⟨⟨_, _, _, _, _, _, _, _, _, _, rfl, l15, c15, .inr ⟨by simp, dT15, dO15, dA15.toList, dN15, rfl, dl15_, by simpa using dd15_, dr15_⟩, .inl rfl⟩, k15⟩
  have F16 := fun_mk (st := st_Store_all_owners) l16 c16 k16
  have F17 := fun_mk (st := st_Store_all_rows) l17 c17 k17
  have F18 := fun_mk (st := st_odd) l18 c18 k18
  have F19 := fun_mk (st := st_told) l19 c19 k19
  have F20 := fun_mk (st := st_is_value) l20 c20 k20
  have F21 := fun_mk (st := st_due) l21 c21 k21
  have F22 := fun_mk (st := st_Store__setitem) l22 c22 k22
  have F23 := fun_mk (st := st_set) l23 c23 k23
  have F24 := fun_mk (st := st_Store_has_owner) l24 c24 k24
  have F25 := fun_mk (st := st_Store_row) l25 c25 k25
  have F26 := fun_mk (st := st_Store__contains) l26 c26 k26
  have F27 := fun_mk (st := st_Missing__init) l27 c27 k27
  have F28 := fun_mk (st := st_Store__getitem) l28 c28 k28
  have F29 := fun_mk (st := st_Store_drop) l29 c29 k29
  have F30 := fun_mk (st := st_Store_bear) l30 c30 k30
  have F31 := fun_mk (st := st_gone) l31 c31 k31
  have F32 := fun_mk (st := st_in_use) l32 c32 k32
  have F33 := fun_mk (st := st_law) l33 c33 k33
  let fd : Nat → FuncData := fun i => match i with
    | 0 => PySem.W.fnOf "_law_bag" "_law_bag" (defArgs st_bag) (defBody st_bag) (defScope st_bag) .none kV0 dc0 pm0 an0 cd0 ct0
    | 1 => PySem.W.fnOf "_law_take" "_law_take" (defArgs st_take) (defBody st_take) (defScope st_take) .none kV1 dc1 pm1 an1 cd1 ct1
    | 2 => PySem.W.fnOf "_law_of" "_law_of" (defArgs st_of) (defBody st_of) (defScope st_of) .none kV2 dc2 pm2 an2 cd2 ct2
    | 3 => PySem.W.fnOf "_law_names" "_law_names" (defArgs st_names) (defBody st_names) (defScope st_names) .none kV3 dc3 pm3 an3 cd3 ct3
    | 4 => PySem.W.fnOf "_law_keys" "_law_keys" (defArgs st_keys) (defBody st_keys) (defScope st_keys) .none kV4 dc4 pm4 an4 cd4 ct4
    | 5 => PySem.W.fnOf "_law_owners" "_law_owners" (defArgs st_owners) (defBody st_owners) (defScope st_owners) .none kV5 dc5 pm5 an5 cd5 ct5
    | 6 => PySem.W.fnOf "_law_integer" "_law_integer" (defArgs st_integer) (defBody st_integer) (defScope st_integer) .none kV6 dc6 pm6 an6 cd6 ct6
    | 7 => PySem.W.fnOf "_law_rows" "_law_rows" (defArgs st_rows) (defBody st_rows) (defScope st_rows) .none kV7 dc7 pm7 an7 cd7 ct7
    | 8 => PySem.W.fnOf "is_name" "is_name" (defArgs st_is_name) (defBody st_is_name) (defScope st_is_name) .none kV8 dc8 pm8 an8 cd8 ct8
    | 9 => PySem.W.fnOf "is_key" "is_key" (defArgs st_is_key) (defBody st_is_key) (defScope st_is_key) .none kV9 dc9 pm9 an9 cd9 ct9
    | 10 => PySem.W.fnOf "__init__" "InvalidPart.__init__" (defArgs st_InvalidPart__init) (defBody st_InvalidPart__init) (defScope st_InvalidPart__init) .none kV10 dc10 pm10 an10 cd10 ct10
    | 11 => PySem.W.fnOf "is_integer" "is_integer" (defArgs st_is_integer) (defBody st_is_integer) (defScope st_is_integer) .none kV11 dc11 pm11 an11 cd11 ct11
    | 12 => PySem.W.fnOf "checked_rows" "checked_rows" (defArgs st_checked_rows) (defBody st_checked_rows) (defScope st_checked_rows) .none kV12 dc12 pm12 an12 cd12 ct12
    | 13 => PySem.W.fnOf "owner_of" "owner_of" (defArgs st_owner_of) (defBody st_owner_of) (defScope st_owner_of) .none kV13 dc13 pm13 an13 cd13 ct13
    | 14 => PySem.W.fnOf "checked_owners" "checked_owners" (defArgs st_checked_owners) (defBody st_checked_owners) (defScope st_checked_owners) .none kV14 dc14 pm14 an14 cd14 ct14
    | 15 => PySem.W.fnOf "__init__" "Store.__init__" (defArgs st_Store__init) (defBody st_Store__init) (defScope st_Store__init) (.ref dT15) kV15 dc15 pm15 an15 cd15 ct15
    | 16 => PySem.W.fnOf "all_owners" "Store.all_owners" (defArgs st_Store_all_owners) (defBody st_Store_all_owners) (defScope st_Store_all_owners) .none kV16 dc16 pm16 an16 cd16 ct16
    | 17 => PySem.W.fnOf "all_rows" "Store.all_rows" (defArgs st_Store_all_rows) (defBody st_Store_all_rows) (defScope st_Store_all_rows) .none kV17 dc17 pm17 an17 cd17 ct17
    | 18 => PySem.W.fnOf "_law_odd" "_law_odd" (defArgs st_odd) (defBody st_odd) (defScope st_odd) .none kV18 dc18 pm18 an18 cd18 ct18
    | 19 => PySem.W.fnOf "_law_told" "_law_told" (defArgs st_told) (defBody st_told) (defScope st_told) .none kV19 dc19 pm19 an19 cd19 ct19
    | 20 => PySem.W.fnOf "_law_is_value" "_law_is_value" (defArgs st_is_value) (defBody st_is_value) (defScope st_is_value) .none kV20 dc20 pm20 an20 cd20 ct20
    | 21 => PySem.W.fnOf "_law_due" "_law_due" (defArgs st_due) (defBody st_due) (defScope st_due) .none kV21 dc21 pm21 an21 cd21 ct21
    | 22 => PySem.W.fnOf "__setitem__" "Store.__setitem__" (defArgs st_Store__setitem) (defBody st_Store__setitem) (defScope st_Store__setitem) .none kV22 dc22 pm22 an22 cd22 ct22
    | 23 => PySem.W.fnOf "_law_set" "_law_set" (defArgs st_set) (defBody st_set) (defScope st_set) .none kV23 dc23 pm23 an23 cd23 ct23
    | 24 => PySem.W.fnOf "has_owner" "Store.has_owner" (defArgs st_Store_has_owner) (defBody st_Store_has_owner) (defScope st_Store_has_owner) .none kV24 dc24 pm24 an24 cd24 ct24
    | 25 => PySem.W.fnOf "row" "Store.row" (defArgs st_Store_row) (defBody st_Store_row) (defScope st_Store_row) .none kV25 dc25 pm25 an25 cd25 ct25
    | 26 => PySem.W.fnOf "__contains__" "Store.__contains__" (defArgs st_Store__contains) (defBody st_Store__contains) (defScope st_Store__contains) .none kV26 dc26 pm26 an26 cd26 ct26
    | 27 => PySem.W.fnOf "__init__" "Missing.__init__" (defArgs st_Missing__init) (defBody st_Missing__init) (defScope st_Missing__init) .none kV27 dc27 pm27 an27 cd27 ct27
    | 28 => PySem.W.fnOf "__getitem__" "Store.__getitem__" (defArgs st_Store__getitem) (defBody st_Store__getitem) (defScope st_Store__getitem) .none kV28 dc28 pm28 an28 cd28 ct28
    | 29 => PySem.W.fnOf "drop" "Store.drop" (defArgs st_Store_drop) (defBody st_Store_drop) (defScope st_Store_drop) .none kV29 dc29 pm29 an29 cd29 ct29
    | 30 => PySem.W.fnOf "bear" "Store.bear" (defArgs st_Store_bear) (defBody st_Store_bear) (defScope st_Store_bear) .none kV30 dc30 pm30 an30 cd30 ct30
    | 31 => PySem.W.fnOf "_law_gone" "_law_gone" (defArgs st_gone) (defBody st_gone) (defScope st_gone) .none kV31 dc31 pm31 an31 cd31 ct31
    | 32 => PySem.W.fnOf "_law_in_use" "_law_in_use" (defArgs st_in_use) (defBody st_in_use) (defScope st_in_use) .none kV32 dc32 pm32 an32 cd32 ct32
    | 33 => PySem.W.fnOf "law" "law" (defArgs st_law) (defBody st_law) (defScope st_law) .none kV33 dc33 pm33 an33 cd33 ct33
    | _ => PySem.W.fnOf "law" "law" (defArgs st_law) (defBody st_law) (defScope st_law) .none kV33 dc33 pm33 an33 cd33 ct33
  let G : Gx := mkG K [C1, C1, C1, C3, C1, C1, C1, C1, C1, C1, C1, C1, C12, C13] [f0, f1, f2, f3, f4, f5, f6, f7, f8, f9, f10, f11, f12, f13, f14, f15, f16, f17, f18, f19, f20, f21, f22, f23, f24, f25, f26, f27, f28, f29, f30, f31, f32, fa] [] nms nms_nd nms_sz
  have T : Txt K w mg G fd := {
    hK := rfl
    n0 := rfl
    n1 := rfl
    n4 := rfl
    n42 := rfl
    n43 := rfl
    n45 := rfl
    n46 := rfl
    n47 := rfl
    n48 := rfl
    n51 := rfl
    n52 := rfl
    F0 := F0
    b0 := F0.binds (ps := ["_law_script", "_law_at"]) fun _ _ _ _ _ _ us hl => match us, hl with | [_, _], _ => rfl
    m0 := PySem.W.mg_of X GG a0
    F1 := F1
    b1 := F1.binds (ps := ["_law_bag_here", "_law_many"]) fun _ _ _ _ _ _ us hl => match us, hl with | [_, _], _ => rfl
    m1 := PySem.W.mg_of X GG a1
    F2 := F2
    b2 := F2.binds (ps := ["_law_bag_here", "_law_some"]) fun _ _ _ _ _ _ us hl => match us, hl with | [_, _], _ => rfl
    m2 := PySem.W.mg_of X GG a2
    F3 := F3
    b3 := F3.binds (ps := ["_law_bag_here", "_law_many"]) fun _ _ _ _ _ _ us hl => match us, hl with | [_, _], _ => rfl
    m3 := PySem.W.mg_of X GG a3
    F4 := F4
    b4 := F4.binds (ps := ["_law_bag_here", "_law_many"]) fun _ _ _ _ _ _ us hl => match us, hl with | [_, _], _ => rfl
    m4 := PySem.W.mg_of X GG a4
    F5 := F5
    b5 := F5.binds (ps := ["_law_bag_here", "_law_keys_here"]) fun _ _ _ _ _ _ us hl => match us, hl with | [_, _], _ => rfl
    m5 := PySem.W.mg_of X GG a5
    F6 := F6
    b6 := F6.binds (ps := ["_law_bag_here"]) fun _ _ _ _ _ _ us hl => match us, hl with | [_], _ => rfl
    m6 := PySem.W.mg_of X GG a6
    F7 := F7
    b7 := F7.binds (ps := ["_law_bag_here", "_law_keys_here"]) fun _ _ _ _ _ _ us hl => match us, hl with | [_, _], _ => rfl
    m7 := PySem.W.mg_of X GG a7
    F8 := F8
    b8 := F8.binds (ps := ["thing"]) fun _ _ _ _ _ _ us hl => match us, hl with | [_], _ => rfl
    m8 := PySem.W.mg_of X GG a8
    F9 := F9
    b9 := F9.binds (ps := ["thing"]) fun _ _ _ _ _ _ us hl => match us, hl with | [_], _ => rfl
    m9 := PySem.W.mg_of X GG a9
    F10 := F10
    b10 := F10.binds (ps := ["self", "part", "thing"]) fun _ _ _ _ _ _ us hl => match us, hl with | [_, _, _], _ => rfl
    F11 := F11
    b11 := F11.binds (ps := ["thing"]) fun _ _ _ _ _ _ us hl => match us, hl with | [_], _ => rfl
    m11 := PySem.W.mg_of X GG a11
    F12 := F12
    b12 := F12.binds (ps := ["rows"]) fun _ _ _ _ _ _ us hl => match us, hl with | [_], _ => rfl
    m12 := PySem.W.mg_of X GG a12
    F13 := F13
    b13 := F13.binds (ps := ["key"]) fun _ _ _ _ _ _ us hl => match us, hl with | [_], _ => rfl
    m13 := PySem.W.mg_of X GG a13
    F14 := F14
    b14 := F14.binds (ps := ["kept", "owners"]) fun _ _ _ _ _ _ us hl => match us, hl with | [_, _], _ => rfl
    m14 := PySem.W.mg_of X GG a14
    F15 := ⟨_, _, F15⟩
    kb15_0 := kbd_of (pn := ["self", "rows", "owners"]) (kn := []) F15 3 [] (0 :: ([0, 1] : List Nat).map (· + 1)) rfl rfl rfl rfl rfl (by simp only [List.length_cons, List.length_nil]; decide +kernel) (by simp only [List.length_cons, List.length_nil]; decide +kernel) (gvs_cons (gv_tup tle15_0 tce15_0 tde15_0 tze15_0 tve15_0 gvs_nil) (gvs_cons (gv_tup tle15_1 tce15_1 tde15_1 tze15_1 tve15_1 gvs_nil) gvs_nil))
    F16 := F16
    b16 := F16.binds (ps := ["self"]) fun _ _ _ _ _ _ us hl => match us, hl with | [_], _ => rfl
    F17 := F17
    b17 := F17.binds (ps := ["self"]) fun _ _ _ _ _ _ us hl => match us, hl with | [_], _ => rfl
    F18 := F18
    b18 := F18.binds (ps := ["_law_bag_here"]) fun _ _ _ _ _ _ us hl => match us, hl with | [_], _ => rfl
    m18 := PySem.W.mg_of X GG a18
    F19 := F19
    b19 := F19.binds (ps := ["_law_rows_here", "_law_names_here"]) fun _ _ _ _ _ _ us hl => match us, hl with | [_, _], _ => rfl
    m19 := PySem.W.mg_of X GG a19
    F20 := F20
    b20 := F20.binds (ps := ["_law_thing"]) fun _ _ _ _ _ _ us hl => match us, hl with | [_], _ => rfl
    m20 := PySem.W.mg_of X GG a20
    F21 := F21
    b21 := F21.binds (ps := ["_law_rows_here", "_law_names_here", "_law_keys_here"]) fun _ _ _ _ _ _ us hl => match us, hl with | [_, _, _], _ => rfl
    m21 := PySem.W.mg_of X GG a21
    F22 := F22
    b22 := F22.binds (ps := ["self", "key", "value"]) fun _ _ _ _ _ _ us hl => match us, hl with | [_, _, _], _ => rfl
    F23 := F23
    b23 := F23.binds (ps := ["_law_store", "_law_key", "_law_value_here"]) fun _ _ _ _ _ _ us hl => match us, hl with | [_, _, _], _ => rfl
    m23 := PySem.W.mg_of X GG a23
    F24 := F24
    b24 := F24.binds (ps := ["self", "name"]) fun _ _ _ _ _ _ us hl => match us, hl with | [_, _], _ => rfl
    F25 := F25
    b25 := F25.binds (ps := ["self", "key"]) fun _ _ _ _ _ _ us hl => match us, hl with | [_, _], _ => rfl
    F26 := F26
    b26 := F26.binds (ps := ["self", "key"]) fun _ _ _ _ _ _ us hl => match us, hl with | [_, _], _ => rfl
    F27 := F27
    b27 := F27.binds (ps := ["self", "key"]) fun _ _ _ _ _ _ us hl => match us, hl with | [_, _], _ => rfl
    F28 := F28
    b28 := F28.binds (ps := ["self", "key"]) fun _ _ _ _ _ _ us hl => match us, hl with | [_, _], _ => rfl
    F29 := F29
    b29 := F29.binds (ps := ["self", "key"]) fun _ _ _ _ _ _ us hl => match us, hl with | [_, _], _ => rfl
    F30 := F30
    b30 := F30.binds (ps := ["self", "name"]) fun _ _ _ _ _ _ us hl => match us, hl with | [_, _], _ => rfl
    F31 := F31
    b31 := F31.binds (ps := ["_law_store", "_law_key", "_law_way"]) fun _ _ _ _ _ _ us hl => match us, hl with | [_, _, _], _ => rfl
    m31 := PySem.W.mg_of X GG a31
    F32 := F32
    b32 := F32.binds (ps := ["_law_bag_here", "_law_store", "_law_keys_here", "_law_kept"]) fun _ _ _ _ _ _ us hl => match us, hl with | [_, _, _, _], _ => rfl
    m32 := PySem.W.mg_of X GG a32
    F33 := F33
    b33 := F33.binds (ps := ["_law_script"]) fun _ _ _ _ _ _ us hl => match us, hl with | [_], _ => rfl
    m33 := PySem.W.mg_of X GG a33
    mc12 := PySem.W.mg_of X GG g12
    mc13 := PySem.W.mg_of X GG g13
    mc1 := PySem.W.mg_of X GG g1
    mc3 := PySem.W.mg_of X GG g3
    z_abs := PySem.W.mg_none_of X GG z_abs
    z_bool := PySem.W.mg_none_of X GG z_bool
    z_dict := PySem.W.mg_none_of X GG z_dict
    z_enumerate := PySem.W.mg_none_of X GG z_enumerate
    z_int := PySem.W.mg_none_of X GG z_int
    z_isinstance := PySem.W.mg_none_of X GG z_isinstance
    z_len := PySem.W.mg_none_of X GG z_len
    z_list := PySem.W.mg_none_of X GG z_list
    z_max := PySem.W.mg_none_of X GG z_max
    z_min := PySem.W.mg_none_of X GG z_min
    z_range := PySem.W.mg_none_of X GG z_range
    z_sorted := PySem.W.mg_none_of X GG z_sorted
    z_str := PySem.W.mg_none_of X GG z_str
    gc_GREATEST := ⟨_, PySem.W.mg_of X GG gc_GREATEST, ⟨_, rfl⟩⟩
    gc_LETTERS := ⟨_, PySem.W.mg_of X GG gc_LETTERS, ⟨_, rfl⟩⟩
    gc_MOST_SIGNS := ⟨_, PySem.W.mg_of X GG gc_MOST_SIGNS, ⟨_, rfl⟩⟩
    cl12 := ⟨pg12, hd12, po12, sa12⟩
    cl13 := ⟨pg13, hd13, po13, sa13⟩
    fo12_43 := ⟨⟨pg12, hd12, po12, sa12⟩, no12_43⟩
    fo12_42 := ⟨⟨pg12, hd12, po12, sa12⟩, no12_42⟩
    fo13_43 := ⟨⟨pg13, hd13, po13, sa13⟩, no13_43⟩
    fo13_42 := ⟨⟨pg13, hd13, po13, sa13⟩, no13_42⟩
    mk13 := ⟨mm13, mi13, mf13, mp13⟩
    me13_48 := ⟨ea13_48, ef13_48, k16⟩
    me13_47 := ⟨ea13_47, ef13_47, k17⟩
    me13_51 := ⟨ea13_51, ef13_51, k30⟩
    me13_52 := ⟨ea13_52, ef13_52, k29⟩
    me13_46 := ⟨ea13_46, ef13_46, k24⟩
    me13_45 := ⟨ea13_45, ef13_45, k25⟩
    os13_contains := ⟨sa13_contains, sf13_contains, si13_contains, sq13_contains⟩
    os13_getitem := ⟨sa13_getitem, sf13_getitem, si13_getitem, sq13_getitem⟩
    os13_setitem := ⟨sa13_setitem, sf13_setitem, si13_setitem, sq13_setitem⟩
    oex1 := ⟨⟨_, _, _, _, _, _, _, _, _, _, _, _, _, _, _, xL1, xR1⟩, xS1, xE1, xT1, xK1⟩
    xi1 := xI1
    xt1 := xF1
    xn1_0 := xn1_0
    xn1_1 := xn1_1
    oex3 := ⟨⟨_, _, _, _, _, _, _, _, _, _, _, _, _, _, _, xL3, xR3⟩, xS3, xE3, xT3, xK3⟩
    xi3 := xI3
    xt3 := xF3
    xn3_4 := xn3_4
    xf1_0 := ⟨⟨yg1, yk1, ys1, yd1⟩, yo1_0⟩
    xf1_1 := ⟨⟨yg1, yk1, ys1, yd1⟩, yo1_1⟩
    xf3_4 := ⟨⟨yg3, yk3, ys3, yd3⟩, yo3_4⟩
    mt1 := mt_ok (al1 mt1_1 (al1 mt1_3 al0))
    mt3 := mt_ok (al1 mt3_1 (al1 mt3_3 al0))
    kit := ⟨kit_all (fun k j b e => lookup_all (l := [((12, 13), false)]) (P := fun (p : Nat × Nat) b => PySem.W.kitOne K (.ref (G.ca p.2)) (.ref (G.ca p.1)) = some b) (a := (k, j)) (al1 ko12_13 al0) e) (ktG_ok (fa1 (ty7 kg12_NoneType kg12_bool kg12_int kg12_str kg12_tuple kg12_list kg12_dict) fa0)) (fun _ _ _ e => nomatch e), fun q k b e => match q with | .ty a => nomatch e | .own j => lookup_all (l := [((12, 13), false)]) (P := fun (p : Nat × Nat) _ => InsOk K (G.ca p.2)) (a := (j, k)) (al1 ⟨⟨pg13, hd13, po13, sa13⟩, ia13, in13, it13, im13⟩ al0) e⟩
    kitE := ⟨fun q k b e => kit_all (f := ktF [((12, 1), false), ((12, 3), false)]) (g := ktg0) (h := ktH []) (fun k j b e => lookup_all (l := [((12, 1), false), ((12, 3), false)]) (P := fun (p : Nat × Nat) b => PySem.W.kitOne K (.ref (G.ca p.2)) (.ref (G.ca p.1)) = some b) (a := (k, j)) (al1 kf12_1 (al1 kf12_3 al0)) e) (fun _ _ _ e => nomatch e) (fun a j b e => lookup_all (l := []) (P := fun (p : String × Nat) b => PySem.W.kitOne K (.ref (G.ca p.2)) (.type p.1) = some b) (a := (a, j)) al0 e) q (.own k) b e,
      fun q k b e => match q with | .ty a => lookup_all (l := []) (P := fun (p : String × Nat) _ => ExcOk K (G.ca p.2)) (a := (a, k)) al0 e | .own j => lookup_all (l := [((12, 1), false), ((12, 3), false)]) (P := fun (p : Nat × Nat) _ => ExcOk K (G.ca p.2)) (a := (j, k)) (al1 ⟨yc1, yg1, yk1, ys1, ya1, yn1, yt1, ym1⟩ (al1 ⟨yc3, yg3, yk3, ys3, ya3, yn3, yt3, ym3⟩ al0)) e⟩
  }
  exact ⟨fd 33, fun s v => .of_eq rfl, fun base _ _ => ⟨G, rfl, ok_law T⟩⟩
end Wk11
namespace Wk11
open PySem PySem.Spec PyProof.Rows L2 PI
def BagAt (h : AH) (n : Nat) : Prop := ∃ c m : Int, h[n]? = some (some (.lst [.int c, .int m])) ∧ 0 ≤ c ∧ 0 ≤ m ∧ m < 2147483648
def Drew (n : Nat) (h h' : AH) : Prop := BagAt h' n ∧ h'.length = h.length ∧ ∀ j, j ≠ n → h'[j]? = h[j]?
theorem Drew.trans {n : Nat} {h h1 h2 : AH} (a : Drew n h h1) (b : Drew n h1 h2) : Drew n h h2 := ⟨b.1, b.2.1.trans a.2.1, fun j q => (b.2.2 j q).trans (a.2.2 j q)⟩
theorem drew_set {n : Nat} {h : AH} {o : AO} {c m : Int} (e : h[n]? = some (some o)) (h0 : 0 ≤ c) (h1 : 0 ≤ m) (h2 : m < 2147483648) : Drew n h (h.set n (some (.lst [.int c, .int m]))) := by
  have hl := (List.getElem?_eq_some_iff.mp e).1
  refine ⟨⟨c, m, by simp [hl], h0, h1, h2⟩, by simp, fun j q => by rw [List.getElem?_set_ne (Ne.symm q)]⟩
theorem take_ok {h : AH} {n : Nat} {k : Int} (b : BagAt h n) (hk : 0 < k) (hk2 : k < 10 ^ 40) : ∃ d h', c_take [.ref n, .int k] h = .ok (.int d) h' ∧ 0 ≤ d ∧ d < k ∧ Drew n h h' := by
  obtain ⟨c, m, e, h0, h1, h2⟩ := b
  obtain ⟨hl, e'⟩ := List.getElem?_eq_some_iff.mp e
  by_cases hc : 0 < c
  · have hk3 : k < 1000000000000000000000000000000000000000000000000000000000000 := by omega
    refine ⟨c % k, _, ?_, Int.emod_nonneg _ (by omega), Int.emod_lt_of_pos _ hk, drew_set (c := c / k) (m := m) e (Int.ediv_nonneg h0 (by omega)) h1 h2⟩
    simp [c_take, m_take, b_take, List.lookup, e', hl, hc, hk, hk3]
  · refine ⟨(m * 48271 + 70001) % 2147483629 / 13 * 39373 % 2147483647 / 32 % k, _, ?_, Int.emod_nonneg _ (by omega), Int.emod_lt_of_pos _ hk, drew_set (c := c) (m := (m * 48271 + 70001) % 2147483629) e h0 (by omega) (by omega)⟩
    simp [c_take, m_take, b_take, List.lookup, e', hc, hk, hl]
theorem of_ok {h : AH} {n : Nat} {xs : List AV} (b : BagAt h n) (hk : 0 < xs.length) (hk2 : xs.length < 1000000) : ∃ v h', c_of [.ref n, .fl xs] h = .ok v h' ∧ v ∈ xs ∧ Drew n h h' := by
  obtain ⟨d, h', e, d0, d1, D⟩ := take_ok (k := (xs.length : Int)) b (by omega) (by omega)
  obtain ⟨j, rfl⟩ : ∃ j : Nat, d = (j : Int) := ⟨d.toNat, by omega⟩
  have hj : j < xs.length := by omega
  refine ⟨xs[j], h', ?_, List.getElem_mem _, D⟩
  simp [c_of, m_of, b_of, List.lookup, e, hj]
theorem bag_loop (ns : List AV) (hz : ∀ v, v ∈ ns → ∃ k : Nat, k < 63 ∧ ∃ z : Int, v = .tup [.int (k : Nat), .int z]) : ∀ (s a c x : AV) (m : Int) (p q : Option AV) (h : AH), 0 ≤ m → m < 2147483648 → ∃ m' p' q', 0 ≤ m' ∧ m' < 2147483648 ∧ forL (gT 2 (gsCons (gN 4) (gsCons (gN 5) gsNil))) l0_bag ns [some s, some a, some c, some (.int m), p, q] h = .nx [some s, some a, some c, some (.int m'), p', q'] h := by
  induction ns with
  | nil => exact fun s a c x m p q h h0 h1 => ⟨m, p, q, h0, h1, rfl⟩
  | cons v r ih =>
    intro s a c x m p q h h0 h1
    obtain ⟨k, hk, z, rfl⟩ := hz v (by simp)
    have e : forL (gT 2 (gsCons (gN 4) (gsCons (gN 5) gsNil))) l0_bag (.tup [.int (k : Nat), .int z] :: r) [some s, some a, some c, some (.int m), p, q] h = forL (gT 2 (gsCons (gN 4) (gsCons (gN 5) gsNil))) l0_bag r [some s, some a, some c, some (.int ((m * 40692 + z % 2147483249 + 977 * (k : Int)) % 2147483399)), some (.int (k : Nat)), some (.int z)] h := by
      rw [forL]
      simp [l0_bag, List.lookup]
    rw [e]
    exact ih (fun v hv => hz v (by simp [hv])) s a c x _ _ _ h (by omega) (by omega)
theorem bag_ok (ns : List Int) (hn : ns.length ≤ 63) (a : Nat) (ha : a < 1000) (h : AH) : ∃ o, c_bag [.fl (ns.map .int), .int a] h = .ok (.ref h.length) (h ++ [some o]) ∧ BagAt (h ++ [some o]) h.length := by
  obtain ⟨x, hx⟩ : ∃ x : Int, x = (if h : a < ns.length then ns[a] else 0) := ⟨_, rfl⟩
  have e1 : ∀ p q r s, sSet 2 (mIf (mB (mBin kLt (mVar 1) (mL kLen (mCons (mVar 0) mNil)))) (mBin kIx (mVar 0) (mVar 1)) (mC (.int 0))) [some (.fl (ns.map .int)), some (.int a), p, q, r, s] h = .nx [some (.fl (ns.map .int)), some (.int a), some (.int x), q, r, s] h := by
    intro p q r s
    subst hx
    by_cases hl : a < ns.length
    · simp [List.lookup, hl]
    · simp [List.lookup, hl]
  obtain ⟨m', p', q', m0, m1, e2⟩ := bag_loop (enumA ((ns.map .int).take 63)) (by
    intro v hv
    unfold enumA at hv
    rw [List.mem_iff_getElem] at hv
    obtain ⟨i, hi, e⟩ := hv
    simp at hi
    refine ⟨i, by omega, ns[i], ?_⟩
    simp at e
    rw [← e]) (.fl (ns.map .int)) (.int a) (.int x) .non (5171 * a + 617) none none h (by omega) (by omega)
  obtain ⟨y, hy⟩ : ∃ y : Int, y = (if x < 0 then -x else x) := ⟨_, rfl⟩
  have y0 : 0 ≤ y := by rw [hy]; split <;> omega
  refine ⟨.lst [.int (if 1000000000000000000 ≤ y then y else 0), .int m'], ?_, ⟨(if 1000000000000000000 ≤ y then y else 0), m', by simp, by split <;> omega, m0, m1⟩⟩
  have e3 : ∀ (q r s : Option AV), sSet 3 (mBin kAdd (mBin kMul (mC (.int 5171)) (mVar 1)) (mC (.int 617))) [some (.fl (ns.map .int)), some (.int a), some (.int x), q, r, s] h = .nx [some (.fl (ns.map .int)), some (.int a), some (.int x), some (.int (5171 * a + 617)), r, s] h := by
    intro q r s
    simp [List.lookup]
  have e4 : ∀ τ, (mEnumA (mCons (mSl (mVar 0) none (some (mC (.int 63)))) mNil)) (some (.fl (ns.map .int)) :: τ) h = .ok (enumA ((ns.map .int).take 63)) h := by
    intro τ
    have hc : cutA (ns.map AV.int) none (some 63) = (ns.map AV.int).take 63 := by
      unfold cutA HT.sIx
      simp
    simp [List.lookup, kSl, hc]
  simp only [c_bag, chk, m_bag, runF, b_bag]
  simp only [List.append_nil, List.length_cons, List.length_nil, List.map_cons, List.map_nil, List.replicate, Nat.reduceAdd, Nat.reduceSub, if_true, List.cons_append, List.nil_append]
  rw [sSeq, e1]
  simp only
  rw [sSeq, e3]
  simp only
  rw [sSeq, sFor, e4]
  simp only [Res.bindS]
  rw [e2]
  simp only
  have e5 : (10 : Int) ^ 18 = 1000000000000000000 := by decide
  by_cases hc : 1000000000000000000 ≤ y
  · simp [List.lookup, hc, e5, ← hy]
  · simp [List.lookup, hc, e5, ← hy]
theorem of_okT {h : AH} {n : Nat} {xs : List AV} (b : BagAt h n) (hk : 0 < xs.length) (hk2 : xs.length < 1000000) : ∃ v h', c_of [.ref n, .tup xs] h = .ok v h' ∧ v ∈ xs ∧ Drew n h h' := by
  obtain ⟨d, h', e, d0, d1, D⟩ := take_ok (k := (xs.length : Int)) b (by omega) (by omega)
  obtain ⟨j, rfl⟩ : ∃ j : Nat, d = (j : Int) := ⟨d.toNat, by omega⟩
  have hj : j < xs.length := by omega
  refine ⟨xs[j], h', ?_, List.getElem_mem _, D⟩
  simp [c_of, m_of, b_of, List.lookup, e, hj]
/-- the kinds of things that the law hands in -/
def knd : AV → Option String
  | .non => some "NoneType"
  | .bl _ => some "bool"
  | .int _ => some "int"
  | .str _ => some "str"
  | .tup _ => some "tuple"
  | .fl _ => some "list"
  | _ => none
theorem knd_typ {v : AV} {n : String} (e : knd v = some n) (h : AH) : typA v h = some (.ty n) ∧ ktT n = true := by
  cases v <;> first | (simp [knd] at e; done) | (simp [knd] at e; subst e; exact ⟨rfl, by decide⟩)
def isS : AV → Bool
  | .str _ => true
  | _ => false
def isI : AV → Bool
  | .int _ => true
  | .bl _ => true
  | _ => false
def isBl : AV → Bool
  | .bl _ => true
  | _ => false
theorem isi_str {v : AV} {n : String} (e : knd v = some n) (h : AH) : kIsi kt [v, .ty "str"] h = some (.bl (isS v), h) := by
  cases v <;> first | (simp [knd] at e; done) | (simp [kIsi, typA, clsA, kt, ktOf, ktB, ktT, isS]; done)
theorem isi_int {v : AV} {n : String} (e : knd v = some n) (h : AH) : kIsi kt [v, .ty "int"] h = some (.bl (isI v), h) := by
  cases v <;> first | (simp [knd] at e; done) | (simp [kIsi, typA, clsA, kt, ktOf, ktB, ktT, isI]; done)
theorem isi_bool {v : AV} {n : String} (e : knd v = some n) (h : AH) : kIsi kt [v, .ty "bool"] h = some (.bl (isBl v), h) := by
  cases v <;> first | (simp [knd] at e; done) | (simp [kIsi, typA, clsA, kt, ktOf, ktB, ktT, isBl]; done)
def Kd (v : AV) : Prop := ∃ n, knd v = some n
theorem Kd.pl {v : AV} (k : Kd v) : plainV v = true := by
  obtain ⟨n, e⟩ := k
  cases v <;> first | rfl | (simp [knd] at e; done)
theorem Kd.ne {v : AV} (k : Kd v) : notE v = true := notE_knd k.pl
/-- what a law hands in -/
def gdB (v : AV) : Bool := match v with
  | .str x => txB x
  | v => (knd v).isSome
theorem gd_kd {v : AV} (g : gdB v = true) : Kd v := by
  cases v <;> first | exact ⟨_, rfl⟩ | (simp [gdB, knd] at g; done)
def oddL : List AV := [.non, .bl true, .bl false, .int 0, .int 1, .int (-1), .int (10 ^ 39), .str "", .str " ", .str "Set", .str "set ", .str "a b", .fl [], .fl [.str "set"], .tup [], .tup [.str "a"], .str "9/9", .str "a/", .str "/a", .str "a/b/c", .str "abcdefghi", .str (Txt.mul "x" 400)]
theorem odd_ok {h : AH} {n : Nat} (b : BagAt h n) : ∃ v h', c_odd [.ref n] h = .ok v h' ∧ v ∈ oddL ∧ Drew n h h' := by
  obtain ⟨v, h', e, hv, D⟩ := of_ok (xs := oddL) b (by decide) (by decide)
  refine ⟨v, h', ?_, hv, D⟩
  have z : (mL kFl (mCons (mC .non) (mCons (mC (.bl true)) (mCons (mC (.bl false)) (mCons (mC (.int 0)) (mCons (mC (.int 1)) (mCons (mUn kNeg (mC (.int 1))) (mCons (mBin kPow (mC (.int 10)) (mC (.int 39))) (mCons (mC (.str "")) (mCons (mC (.str " ")) (mCons (mC (.str "Set")) (mCons (mC (.str "set ")) (mCons (mC (.str "a b")) (mCons (mL kFl mNil) (mCons (mL kFl (mCons (mC (.str "set")) mNil)) (mCons (mL kTup mNil) (mCons (mL kTup (mCons (mC (.str "a")) mNil)) (mCons (mC (.str "9/9")) (mCons (mC (.str "a/")) (mCons (mC (.str "/a")) (mCons (mC (.str "a/b/c")) (mCons (mC (.str "abcdefghi")) (mCons (mBin kMul (mC (.str "x")) (mC (.int 400))) mNil)))))))))))))))))))))))  [some (.ref n)] h = .ok (.fl oddL) h := by
    have hx : ("x" : Str).length = 1 := by decide
    have hp : (10 : Int) ^ (39 : Int).toNat = 1000000000000000000000000000000000000000 := by decide
    simp [List.lookup, oddL, hx]
  simp only [c_odd, chk, m_odd, runF, b_odd]
  simp only [List.append_nil, List.length_cons, List.length_nil, List.map_cons, List.map_nil, List.replicate, Nat.reduceAdd, Nat.reduceSub, if_true, List.cons_append, List.nil_append]
  generalize (mL kFl _) = M at z ⊢
  simp [List.lookup, z, e]
def ABC : Str := "abcdefghijklmnopqrstuvwxyz"
def okC (k : Nat) : Bool := decide (k ∈ ABC.cps.toList)
def lenB (x : Str) : Bool := decide (1 ≤ x.length ∧ x.length ≤ 8)
/-- a name -/
def fitB (x : Str) : Bool := lenB x && x.cps.toList.all okC
theorem okC_no {k : Nat} (e : okC k = false) : ¬ k ∈ ABC.cps.toList := by simpa [okC] using e
theorem okC_yes {k : Nat} (e : okC k = true) : k ∈ ABC.cps.toList := by simpa [okC] using e
theorem okC_rng {k : Nat} (e : okC k = true) : 97 ≤ k ∧ k ≤ 122 := by
  have := okC_yes e
  have h : ABC.cps.toList.all (fun k => decide (97 ≤ k ∧ k ≤ 122)) = true := by decide +kernel
  exact of_decide_eq_true (List.all_eq_true.mp h k this)
theorem okC_of {k : Nat} (h1 : 97 ≤ k) (h2 : k ≤ 122) : okC k = true := by
  have h : (List.range' 97 26).all okC = true := by decide +kernel
  exact List.all_eq_true.mp h k (List.mem_range'_1.mpr ⟨h1, by omega⟩)
theorem isnm_loop (a : AV) (h : AH) : ∀ (l : List Nat) (p : Option AV), ∃ p', forL (gN 1) l0_is_name (l.map fun k => .str ⟨#[k]⟩) [some a, p] h = if l.all okC then .nx [some a, p'] h else .rt (.bl false) h
  | [], p => ⟨p, rfl⟩
  | k :: l, p => by
    cases q : okC k with
    | false =>
      have q' := okC_no q
      refine ⟨p, ?_⟩
      rw [List.map_cons, forL, List.all_cons, q]
      simp [l0_is_name, kInS, (show ("abcdefghijklmnopqrstuvwxyz" : Str) = ABC from rfl), q']
    | true =>
      have q' := okC_yes q
      obtain ⟨p', e⟩ := isnm_loop a h l (some (.str ⟨#[k]⟩))
      refine ⟨p', ?_⟩
      rw [List.all_cons, q, Bool.true_and, ← e, List.map_cons, forL]
      simp [l0_is_name, kInS, (show ("abcdefghijklmnopqrstuvwxyz" : Str) = ABC from rfl), q']
theorem lenB_cases (x : Str) : (lenB x = true ∧ (1 : Int) ≤ x.length ∧ (x.length : Int) ≤ 8) ∨ (lenB x = false ∧ ¬ (1 : Int) ≤ x.length) ∨ (lenB x = false ∧ (1 : Int) ≤ x.length ∧ ¬ (x.length : Int) ≤ 8) := by
  by_cases h1 : (1 : Int) ≤ x.length
  · by_cases h2 : (x.length : Int) ≤ 8
    · exact .inl ⟨decide_eq_true (by omega), h1, h2⟩
    · exact .inr (.inr ⟨decide_eq_false (by omega), h1, h2⟩)
  · exact .inr (.inl ⟨decide_eq_false (by omega), h1⟩)
def nameB (v : AV) : Bool := match v with
  | .str x => fitB x
  | _ => false
theorem is_name_ok {v : AV} (g : gdB v = true) (h : AH) : c_is_name [v] h = .ok (.bl (nameB v)) h := by
  obtain ⟨n, hk⟩ := gd_kd g
  have hi := isi_str hk h
  cases v with
  | str x =>
    have e : txB x = true := g
    have hs := strS_of e
    obtain ⟨p', el⟩ := isnm_loop (.str x) h x.cps.toList none
    have ef : nameB (.str x) = (lenB x && x.cps.toList.all okC) := rfl
    rcases lenB_cases x with ⟨q1, h1, h2⟩ | ⟨q1, h1⟩ | ⟨q1, h1, h2⟩
    · cases q : x.cps.toList.all okC with
      | true =>
        rw [q, if_pos rfl] at el
        simp [c_is_name, m_is_name, b_is_name, sSeq, sFor, mChain, chT, List.lookup, hi, isS, hs, h1, h2, q1, ef, el, q]
      | false =>
        rw [q, if_neg (by decide)] at el
        simp [c_is_name, m_is_name, b_is_name, sSeq, sFor, mChain, chT, List.lookup, hi, isS, hs, h1, h2, q1, ef, el, q]
    · simp [c_is_name, m_is_name, b_is_name, sSeq, mChain, chT, List.lookup, hi, isS, hs, h1, q1, ef]
    · simp [c_is_name, m_is_name, b_is_name, sSeq, mChain, chT, List.lookup, hi, isS, hs, h1, h2, q1, ef]
  | _ => first | (simp [knd] at hk; done) | simp [c_is_name, m_is_name, b_is_name, sSeq, List.lookup, hi, isS, nameB]
theorem fit_len {x : Str} (e : fitB x = true) : 1 ≤ x.length ∧ x.length ≤ 8 := by
  unfold fitB at e
  rw [Bool.and_eq_true] at e
  exact of_decide_eq_true e.1
theorem fit_all {x : Str} (e : fitB x = true) : ∀ k, k ∈ TL.tl x → okC k = true := by
  unfold fitB at e
  rw [Bool.and_eq_true] at e
  exact List.all_eq_true.mp e.2
theorem fit_of {x : Str} (h1 : 1 ≤ x.length) (h2 : x.length ≤ 8) (h : ∀ k, k ∈ TL.tl x → okC k = true) : fitB x = true := by
  unfold fitB
  rw [Bool.and_eq_true]
  exact ⟨decide_eq_true ⟨h1, h2⟩, List.all_eq_true.mpr h⟩
theorem fit_tx {x : Str} (e : fitB x = true) : txB x = true := txB_mk (ok_mem fun k hk => by
  have := okC_rng (fit_all e k hk)
  omega) (by have := fit_len e; omega)
theorem fit_free {x : Str} (e : fitB x = true) {k : Nat} (hk : k < 97 ∨ 122 < k) : k ∉ TL.tl x := fun h => by
  have := okC_rng (fit_all e k h)
  omega
/-! keys -/
theorem sl_sep : Sep1 ("/" : Str) 47 := ⟨by decide, by decide +kernel⟩
theorem sl_tx : txB ("/" : Str) = true := by decide +kernel
theorem sl_len : ("/" : Str).length = 1 := by decide
def keyB (x : Str) : Bool := decide ((Txt.partition x "/").2.1 = "/") && (fitB (Txt.partition x "/").1 && fitB (Txt.partition x "/").2.2)
def isKeyB (v : AV) : Bool := match v with
  | .str x => keyB x
  | _ => false
theorem is_key_ok {v : AV} (g : gdB v = true) (h : AH) : c_is_key [v] h = .ok (.bl (isKeyB v)) h := by
  obtain ⟨n, hk⟩ := gd_kd g
  have hi := isi_str hk h
  cases v with
  | str x =>
    have e : txB x = true := g
    have hp := kPart_ok sl_sep sl_tx e h
    obtain ⟨h1, h2, h3⟩ := txB_part sl_sep sl_tx e
    have n1 := is_name_ok (v := .str (Txt.partition x "/").1) h1 h
    have n3 := is_name_ok (v := .str (Txt.partition x "/").2.2) h3 h
    have ek : isKeyB (.str x) = (decide ((Txt.partition x "/").2.1 = "/") && (fitB (Txt.partition x "/").1 && fitB (Txt.partition x "/").2.2)) := rfl
    rw [ek]
    generalize Txt.partition x "/" = P at *
    obtain ⟨a, b, c⟩ := P
    have f1 : nameB (.str a) = fitB a := rfl
    have f3 : nameB (.str c) = fitB c := rfl
    simp only at *
    rw [f1] at n1
    rw [f3] at n3
    by_cases q1 : b = ("/" : Str)
    · cases q2 : fitB a
      · rw [q2] at n1; simp [c_is_key, m_is_key, b_is_key, hi, isS, hp, q1, n1]
      · rw [q2] at n1; simp [c_is_key, m_is_key, b_is_key, hi, isS, hp, q1, n1, n3]
    · simp [c_is_key, m_is_key, b_is_key, hi, isS, hp, q1]
  | _ => first | (simp [knd] at hk; done) | simp [c_is_key, m_is_key, b_is_key, hi, isS, isKeyB]
/-- a key of an owner and a name -/
def kyS (o m : Str) : Str := o ++ "/" ++ m
theorem ky_part {o m : Str} (ho : fitB o = true) : Txt.partition (kyS o m) "/" = (o, ("/" : Str), m) := TL.partition_app (s := 47) (S := []) sl_sep.tl (fit_free ho (.inl (by omega)))
theorem ky_key {o m : Str} (ho : fitB o = true) (hm : fitB m = true) : keyB (kyS o m) = true := by
  unfold keyB
  rw [ky_part ho]
  simp [ho, hm]
theorem ky_len {o m : Str} : (kyS o m).length = o.length + 1 + m.length := by unfold kyS; rw [len_app, len_app, sl_len]
theorem ky_tx {o m : Str} (ho : fitB o = true) (hm : fitB m = true) : txB (kyS o m) = true := by
  have := fit_len ho
  have := fit_len hm
  refine txB_app (txB_app (fit_tx ho) sl_tx (by rw [sl_len]; omega)) (fit_tx hm) ?_
  rw [len_app, sl_len]
  omega
theorem ky_inj {o m o' m' : Str} (ho : fitB o = true) (ho' : fitB o' = true) (e : kyS o m = kyS o' m') : o = o' ∧ m = m' := by
  have a := ky_part (m := m) ho
  rw [e, ky_part ho'] at a
  injection a with a1 a2
  injection a2 with _ a3
  exact ⟨a1.symm, a3.symm⟩
theorem key_ex {x : Str} (e : keyB x = true) : ∃ o m, fitB o = true ∧ fitB m = true ∧ x = kyS o m := by
  unfold keyB at e
  simp only [Bool.and_eq_true, decide_eq_true_eq] at e
  by_cases q : 47 ∈ TL.tl x
  · obtain ⟨a, b, ex, ha, ep, _⟩ := cut_at sl_sep q
    rw [ep] at e
    exact ⟨a, b, e.2.1, e.2.2, ex⟩
  · rw [(cut_no sl_sep q).1] at e
    exact absurd e.1 (show ¬ Str.empty = ("/" : Str) from by decide)
theorem key_tx {x : Str} (e : keyB x = true) : txB x = true := by
  obtain ⟨o, m, ho, hm, rfl⟩ := key_ex e
  exact ky_tx ho hm
theorem key_len {x : Str} (e : keyB x = true) : x.length ≤ 17 := by
  obtain ⟨o, m, ho, hm, rfl⟩ := key_ex e
  have := fit_len ho
  have := fit_len hm
  rw [ky_len]
  omega
/-- a key's owner -/
def ownS (x : Str) : Str := (Txt.partition x "/").1
theorem own_fit {x : Str} (e : keyB x = true) : fitB (ownS x) = true := by
  unfold keyB at e
  simp only [Bool.and_eq_true] at e
  exact e.2.1
theorem part_ix {x : Str} (e : txB x = true) (h : AH) : (kPart x (.str "/") h).bind (fun p => kIx p.1 (.int 0) p.2) = some (.str (ownS x), h) := by
  rw [kPart_ok sl_sep sl_tx e h]
  rfl
def GR : Int := 999999999999999999999999999999
def intB (v : AV) : Bool := match v with
  | .int i => decide (-GR ≤ i ∧ i ≤ GR)
  | _ => false
theorem is_integer_ok {v : AV} (k : Kd v) (h : AH) : c_is_integer [v] h = .ok (.bl (intB v)) h := by
  obtain ⟨n, e⟩ := k
  have h1 := isi_int e h
  have h2 := isi_bool e h
  cases v with
  | int i =>
    by_cases q1 : (-999999999999999999999999999999 : Int) ≤ i
    · by_cases q2 : i ≤ (999999999999999999999999999999 : Int)
      · simp [c_is_integer, m_is_integer, b_is_integer, mChain, chT, h1, h2, isI, isBl, intB, GR, q1, q2]
      · simp [c_is_integer, m_is_integer, b_is_integer, mChain, chT, h1, h2, isI, isBl, intB, GR, q1, q2]
    · simp [c_is_integer, m_is_integer, b_is_integer, mChain, chT, h1, h2, isI, isBl, intB, GR, q1]
  | bl b => simp [c_is_integer, m_is_integer, b_is_integer, h1, h2, isI, isBl, intB]
  | _ => first | (simp [knd] at e; done) | simp [c_is_integer, m_is_integer, b_is_integer, h1, h2, isI, isBl, intB]
end Wk11
namespace Wk11
open PySem PySem.Spec PyProof.Rows L2 PI
/-! names that are drawn -/
theorem bag_lt {h : AH} {n : Nat} (b : BagAt h n) : n < h.length := by
  obtain ⟨_, _, e, _⟩ := b
  exact (List.getElem?_eq_some_iff.mp e).1
theorem bag_fr {h h' : AH} {n : Nat} (b : BagAt h n) (e : h'[n]? = h[n]?) : BagAt h' n := by
  obtain ⟨c, m, q, z⟩ := b
  exact ⟨c, m, e.trans q, z⟩
theorem Drew.fr {n : Nat} {h h' : AH} (d : Drew n h h') : Fr n h h' := ⟨by rw [d.2.1]; exact Nat.le_refl _, fun j _ hj => d.2.2 j hj⟩
def sgs : List Str := ["a", "z", "q", "m"]
/-- a letter of a stem -/
def stC (k : Nat) : Bool := decide (k = 97 ∨ k = 122 ∨ k = 113 ∨ k = 109)
theorem stC_ok {k : Nat} (h : stC k = true) : okC k = true := by
  unfold stC at h
  have h := of_decide_eq_true h
  exact okC_of (by omega) (by omega)
theorem stem_loop {n : Nat} : ∀ (vs : List AV) (x : Str) (p : Option AV) (h : AH), BagAt h n → (∀ k, k ∈ TL.tl x → stC k = true) → x.length + vs.length ≤ 7 → ∀ (y1 y2 y4 y5 y7 : Option AV), ∃ y p' h', forL (gN 3) l0_names vs [some (.ref n), y1, y2, p, y4, y5, some (.str x), y7] h = .nx [some (.ref n), y1, y2, p', y4, y5, some (.str y), y7] h' ∧ Drew n h h' ∧ (∀ k, k ∈ TL.tl y → stC k = true) ∧ y.length ≤ x.length + vs.length
  | [], x, p, h, B, hx, hl, y1, y2, y4, y5, y7 => ⟨x, p, h, rfl, ⟨B, rfl, fun _ _ => rfl⟩, hx, by simp⟩
  | v :: r, x, p, h, B, hx, hl, y1, y2, y4, y5, y7 => by
    obtain ⟨w, h1, e1, m1, D1⟩ := of_ok (xs := sgs.map .str) B (by decide) (by decide)
    obtain ⟨z, hz, rfl⟩ := List.mem_map.mp m1
    have zz : z.length = 1 ∧ ∀ k, k ∈ TL.tl z → stC k = true := by
      have g : sgs.all (fun z => decide (z.length = 1) && (TL.tl z).all stC) = true := by decide +kernel
      have := List.all_eq_true.mp g z hz
      rw [Bool.and_eq_true] at this
      exact ⟨of_decide_eq_true this.1, List.all_eq_true.mp this.2⟩
    have l1 : (x ++ z).length = x.length + 1 := by rw [len_app, zz.1]
    have l2 : x.length + 1 ≤ 16777216 := by simp at hl; omega
    have el : (sgs.map AV.str) = [.str "a", .str "z", .str "q", .str "m"] := rfl
    rw [el] at e1
    obtain ⟨y, p', h', e2, D2, a, b⟩ := stem_loop r (x ++ z) (some v) h1 D1.1 (fun k hk => by
      rw [TL.tl_append] at hk
      rcases List.mem_append.mp hk with hk | hk
      · exact hx k hk
      · exact zz.2 k hk) (by rw [l1]; simp at hl; omega) y1 y2 y4 y5 y7
    refine ⟨y, p', h', ?_, D1.trans D2, a, by rw [l1] at b; simp; omega⟩
    rw [forL_cons (τ1 := [some (.ref n), y1, y2, some v, y4, y5, some (.str x), y7]) (τ2 := [some (.ref n), y1, y2, some v, y4, y5, some (.str (x ++ z)), y7]) (h2 := h1) (by simp) (by simp [l0_names, e1, zz.1, l2]), e2]
/-- texts of one sign each, unlike -/
def Sg (ls : List Str) : Prop := (∀ z, z ∈ ls → z.length = 1 ∧ ∀ k, k ∈ TL.tl z → okC k = true) ∧ ls.Nodup
theorem abc_sg : Sg (ABC.cps.toList.map fun k => (⟨#[k]⟩ : Str)) := by
  have g : (ABC.cps.toList.map fun k => (⟨#[k]⟩ : Str)).all (fun z => decide (z.length = 1) && (TL.tl z).all okC) = true := by decide +kernel
  refine ⟨fun z hz => ?_, by decide +kernel⟩
  have := List.all_eq_true.mp g z hz
  rw [Bool.and_eq_true] at this
  exact ⟨of_decide_eq_true this.1, List.all_eq_true.mp this.2⟩
def nmS (ahead : Bool) (s z : Str) : Str := if ahead then z ++ s else s ++ z
theorem nm_inj {ah : Bool} {s z z' : Str} (e : nmS ah s z = nmS ah s z') : z = z' := by
  unfold nmS at e
  apply TL.ext_tl
  have e := congrArg TL.tl e
  cases ah
  · simp only [Bool.false_eq_true, if_false, TL.tl_append] at e
    exact List.append_cancel_left e
  · simp only [if_true, TL.tl_append] at e
    exact List.append_cancel_right e
theorem nm_fit {ah : Bool} {s z : Str} (hs : ∀ k, k ∈ TL.tl s → okC k = true) (hl : s.length ≤ 7) (h1 : z.length = 1) (hz : ∀ k, k ∈ TL.tl z → okC k = true) : fitB (nmS ah s z) = true := by
  unfold nmS
  cases ah
  · simp only [Bool.false_eq_true, if_false]
    exact fit_of (by rw [len_app]; omega) (by rw [len_app]; omega) fun k hk => by rw [TL.tl_append] at hk; rcases List.mem_append.mp hk with hk | hk; (exact hs k hk); exact hz k hk
  · simp only [if_true]
    exact fit_of (by rw [len_app]; omega) (by rw [len_app]; omega) fun k hk => by rw [TL.tl_append] at hk; rcases List.mem_append.mp hk with hk | hk; (exact hz k hk); exact hs k hk
theorem erase_str (ls : List Str) (j : Nat) : (ls.map AV.str).eraseIdx j = (ls.eraseIdx j).map .str := by
  induction ls generalizing j with
  | nil => rfl
  | cons a r ih => cases j with
    | zero => rfl
    | succ j => simp [ih]
theorem found_loop {n a b : Nat} (hab : a ≠ b) (han : a ≠ n) (hbn : b ≠ n) {s : Str} {ah : Bool} (hs : ∀ k, k ∈ TL.tl s → okC k = true) (hsl : s.length ≤ 7) : ∀ (vs : List AV) (ls ws : List Str) (p y7 : Option AV) (h : AH), BagAt h n → h[a]? = some (some (.lst (ls.map .str))) → h[b]? = some (some (.lst (ws.map .str))) → Sg ls → vs.length ≤ ls.length → ls.length ≤ 26 → ws.length + vs.length ≤ 1000 → ∀ (y1 : Option AV),
    ∃ (zs : List Str) (p' q7 : Option AV) (h' : AH), forL (gN 3) l1_names vs [some (.ref n), y1, some (.bl ah), p, some (.ref a), some (.ref b), some (.str s), y7] h = .nx [some (.ref n), y1, some (.bl ah), p', some (.ref a), some (.ref b), some (.str s), q7] h' ∧ BagAt h' n ∧ h'[b]? = some (some (.lst ((ws ++ zs.map (nmS ah s)).map .str))) ∧ h'.length = h.length ∧ (∀ j, j ≠ n → j ≠ a → j ≠ b → h'[j]? = h[j]?) ∧ zs.length = vs.length ∧ zs.Nodup ∧ (∀ z, z ∈ zs → z ∈ ls)
  | [], ls, ws, p, y7, h, B, ha, hb, S, hl, h26, hw, y1 => ⟨[], p, y7, h, rfl, B, by simpa using hb, rfl, fun _ _ _ _ => rfl, rfl, List.nodup_nil, fun z hz => by simp at hz⟩
  | v :: r, ls, ws, p, y7, h, B, ha, hb, S, hl, h26, hw, y1 => by
    obtain ⟨d, h1, e1, d0, d1, D1⟩ := take_ok (k := (ls.length : Int)) B (by simp at hl; omega) (by omega)
    obtain ⟨j, rfl⟩ : ∃ j : Nat, d = (j : Int) := ⟨d.toNat, by omega⟩
    have hj : j < ls.length := by omega
    have ha1 : h1[a]? = some (some (.lst (ls.map .str))) := (D1.2.2 a han).trans ha
    have hb1 : h1[b]? = some (some (.lst (ws.map .str))) := (D1.2.2 b hbn).trans hb
    have alt := (List.getElem?_eq_some_iff.mp ha1).1
    have blt := (List.getElem?_eq_some_iff.mp hb1).1
    have zm : ls[j] ∈ ls := List.getElem_mem hj
    obtain ⟨z1, zk⟩ := S.1 _ zm
    obtain ⟨h2, hh2⟩ : ∃ h2, h2 = h1.set a (some (.lst ((ls.eraseIdx j).map .str))) := ⟨_, rfl⟩
    obtain ⟨h3, hh3⟩ : ∃ h3, h3 = h2.set b (some (.lst ((ws ++ [nmS ah s ls[j]]).map .str))) := ⟨_, rfl⟩
    have ha2 : h2[a]? = some (some (.lst ((ls.eraseIdx j).map .str))) := by rw [hh2, List.getElem?_set_self alt]
    have hb2 : h2[b]? = some (some (.lst (ws.map .str))) := by rw [hh2, List.getElem?_set_ne hab]; exact hb1
    have ha3 : h3[a]? = some (some (.lst ((ls.eraseIdx j).map .str))) := by rw [hh3, List.getElem?_set_ne (Ne.symm hab)]; exact ha2
    have hb3 : h3[b]? = some (some (.lst ((ws ++ [nmS ah s ls[j]]).map .str))) := by rw [hh3, List.getElem?_set_self (by rw [hh2, List.length_set]; exact blt)]
    have hn3 : ∀ i, i ≠ a → i ≠ b → h3[i]? = h1[i]? := fun i h1 h2 => by rw [hh3, List.getElem?_set_ne (Ne.symm h2), hh2, List.getElem?_set_ne (Ne.symm h1)]
    have B3 : BagAt h3 n := bag_fr D1.1 (hn3 n (Ne.symm han) (Ne.symm hbn))
    have l3 : h3.length = h.length := by rw [hh3, hh2]; simp [D1.2.1]
    have S2 : Sg (ls.eraseIdx j) := ⟨fun z hz => S.1 z (List.mem_of_mem_eraseIdx hz), S.2.eraseIdx j⟩
    obtain ⟨zs, p', q7, h', e2, B', hb', l', k', lz, nz, mz⟩ := found_loop (ah := ah) hab han hbn hs hsl r (ls.eraseIdx j) (ws ++ [nmS ah s ls[j]]) (some v) (some (.str ls[j])) h3 B3 ha3 hb3 S2 (by rw [List.length_eraseIdx_of_lt hj]; simp at hl; omega) (by rw [List.length_eraseIdx_of_lt hj]; omega) (by simp at hw ⊢; omega) y1
    refine ⟨ls[j] :: zs, p', q7, h', ?_, B', by rw [hb']; simp, l'.trans l3, fun i i1 i2 i3 => (k' i i1 i2 i3).trans ((hn3 i i2 i3).trans (D1.2.2 i i1)), by simp [lz], ?_, fun z hz => ?_⟩
    · have kl : kLen [.ref a] h = some (.int (ls.length : Nat), h) := by rw [kLen_ref, ha]; simp
      have kp : kPopR a [.int (j : Nat)] h1 = some (.str ls[j], h2) := by
        unfold kPopR
        simp only [ha1]
        rw [if_pos (by simp; omega), ixN_ev, if_pos (by omega), if_pos (by simp; omega)]
        simp only [Option.bind_some, Int.toNat_natCast, List.getElem?_map, List.getElem?_eq_getElem hj, Option.map_some, erase_str, hh2]
      have ap : ∀ y : Str, nmS ah s ls[j] = y → kAppR b [.str y] h2 = some (.non, h3) := fun y hy => by
        unfold kAppR
        simp only [hb2]
        rw [if_pos (by simp at hw ⊢; omega), hh3, hy]
        simp
      have s1 : sSet 7 (mBMl kPopR (mVar 4) (mCons (mCall c_take (mCons (mVar 0) (mCons (mL kLen (mCons (mVar 4) mNil)) mNil))) mNil)) [some (.ref n), y1, some (.bl ah), some v, some (.ref a), some (.ref b), some (.str s), y7] h = .nx [some (.ref n), y1, some (.bl ah), some v, some (.ref a), some (.ref b), some (.str s), some (.str ls[j])] h2 := by
        simp [-kLen_ref, ha, kl, e1, kp]
      have l1 : ls[j].length + s.length ≤ 16777216 := by omega
      have l2 : s.length + ls[j].length ≤ 16777216 := by omega
      have st : l1_names [some (.ref n), y1, some (.bl ah), some v, some (.ref a), some (.ref b), some (.str s), y7] h = .nx [some (.ref n), y1, some (.bl ah), some v, some (.ref a), some (.ref b), some (.str s), some (.str ls[j])] h3 := by
        unfold l1_names
        rw [sSeq_ev, s1, thn_nx]
        generalize ls[j] = zz at *
        cases ah with
        | true => have a1 := ap (zz ++ s) rfl; simp [hb2, l1, a1]
        | false => have a1 := ap (s ++ zz) rfl; simp [hb2, l2, a1]
      rw [forL_cons (τ1 := [some (.ref n), y1, some (.bl ah), some v, some (.ref a), some (.ref b), some (.str s), y7]) (by simp) st, e2]
    · refine List.nodup_cons.mpr ⟨fun c => ?_, nz⟩
      have c := mz _ c
      rw [List.mem_eraseIdx_iff_getElem] at c
      obtain ⟨i, hi, ne, e⟩ := c
      rcases Nat.lt_or_gt_of_ne ne with q | q
      · exact List.pairwise_iff_getElem.mp S.2 i j hi hj q e
      · exact List.pairwise_iff_getElem.mp S.2 j i hj hi q e.symm
    · rcases List.mem_cons.mp hz with rfl | hz
      · exact zm
      · exact List.mem_of_mem_eraseIdx (mz z hz)
theorem abc_lst (h : AH) (τ : AS) : mL kListR (mCons (mC (.str "abcdefghijklmnopqrstuvwxyz")) mNil) τ h = .ok (.ref h.length) (h ++ [some (.lst ((ABC.cps.toList.map fun k => (⟨#[k]⟩ : Str)).map .str))]) := by
  have ea : ("abcdefghijklmnopqrstuvwxyz" : Str) = ABC := rfl
  have e26 : (ABC.cps.toList.map fun k => AV.str ⟨#[k]⟩).length = 26 := by rw [List.length_map]; decide +kernel
  have el : (ABC.cps.toList.map fun k => (⟨#[k]⟩ : Str)).map AV.str = ABC.cps.toList.map fun k => AV.str ⟨#[k]⟩ := by rw [List.map_map]; rfl
  rw [el]
  simp only [mL_ev, mCons_ev, mC_ev, bind_ok, fCons_ev, mNil_ev, fCons2_ev, fL_ev, ea, kListR_str, e26]
  rw [if_pos (by decide)]
  rfl
theorem names_c1 (ls : List Str) (hls : ls = ABC.cps.toList.map fun k => (⟨#[k]⟩ : Str)) (v w : AV) (h : AH) : sPar3 4 5 6 (mCons (mL kListR (mCons (mC (.str "abcdefghijklmnopqrstuvwxyz")) mNil)) (mCons (mL kLst mNil) (mCons (mC (.str "")) mNil))) [some v, some w, none, none, none, none, none, none] h = .nx [some v, some w, none, none, some (.ref h.length), some (.ref (h.length + 1)), some (.str Str.empty), none] (h ++ [some (.lst (ls.map .str))] ++ [some (.lst [])]) := by
  have kl := abc_lst h [some v, some w, none, none, none, none, none, none]
  rw [← hls] at kl
  have ee : ("" : Str) = Str.empty := rfl
  rw [sPar3_ev, mCons_ev, kl]
  simp [ee]
theorem nm_self {ah : Bool} {s z : Str} (hs : ∀ k, k ∈ TL.tl s → stC k = true) (h1 : z.length = 1) : nmS ah s z ≠ "self" := fun e => by
  have e := congrArg TL.tl e
  have es : TL.tl ("self" : Str) = [115, 101, 108, 102] := by decide +kernel
  rw [TL.len_tl] at h1
  unfold nmS at e
  cases ah with
  | true =>
    rw [if_pos rfl, TL.tl_append, es] at e
    match hz : TL.tl z with
    | [] => rw [hz] at h1; simp at h1
    | c :: d :: r => rw [hz] at h1; simp at h1
    | [c] =>
      rw [hz] at e
      simp at e
      have := hs 101 (by rw [e.2]; simp)
      simp [stC] at this
  | false =>
    rw [if_neg (by simp), TL.tl_append, es] at e
    match q : TL.tl s with
    | [] => rw [q, List.nil_append] at e; rw [e] at h1; simp at h1
    | c :: r =>
      rw [q] at e
      simp at e
      have := hs 115 (by rw [q, e.1]; simp)
      simp [stC] at this
theorem names_okS {n : Nat} {h : AH} (B : BagAt h n) {k : Nat} (hk : k ≤ 20) : ∃ (ws : List Str) (h' : AH), c_names [.ref n, .int (k : Nat)] h = .ok (.fl (ws.map .str)) h' ∧ ws.length = k ∧ (∀ w, w ∈ ws → fitB w = true ∧ w ≠ "self") ∧ ws.Nodup ∧ BagAt h' n ∧ Fr n h h' := by
  have nl := bag_lt B
  obtain ⟨ls, hls⟩ : ∃ ls, ls = ABC.cps.toList.map fun k => (⟨#[k]⟩ : Str) := ⟨_, rfl⟩
  have Sg0 : Sg ls := by rw [hls]; exact abc_sg
  have l26 : ls.length = 26 := by rw [hls]; decide +kernel
  obtain ⟨h0, hh0⟩ : ∃ h0, h0 = h ++ [some (.lst (ls.map .str))] ++ [some (.lst [])] := ⟨_, rfl⟩
  have l0 : h0.length = h.length + 2 := by rw [hh0]; simp
  have ha0 : h0[h.length]? = some (some (.lst (ls.map .str))) := by rw [hh0]; simp
  have hb0 : h0[h.length + 1]? = some (some (.lst (([] : List Str).map .str))) := by rw [hh0, List.getElem?_append_right (by simp)]; simp
  have k0 : ∀ j, j < h.length → h0[j]? = h[j]? := fun j hj => by rw [hh0, List.getElem?_append_left (by simp; omega), List.getElem?_append_left hj]
  have B0 : BagAt h0 n := bag_fr B (k0 n nl)
  obtain ⟨d, h1, e1, _, _, D1⟩ := take_ok (k := 2) B0 (by omega) (by omega)
  obtain ⟨m, h2, e2, m0, m1, D2⟩ := take_ok (k := 8) D1.1 (by omega) (by omega)
  obtain ⟨mm, rfl⟩ : ∃ j : Nat, m = (j : Int) := ⟨m.toNat, by omega⟩
  obtain ⟨ah, hah⟩ : ∃ ah, ah = decide (d = 0) := ⟨_, rfl⟩
  have lr : (rngA 0 (mm : Int)).length = mm := by unfold rngA; simp
  obtain ⟨s, p', h3, e3, D3, hs, sl⟩ := stem_loop (rngA 0 (mm : Int)) Str.empty none h2 D2.1 (fun k hk => by simp [Str.empty] at hk) (by rw [lr]; have : Str.empty.length = 0 := rfl; omega) (some (.int (k : Nat))) (some (.bl ah)) (some (.ref h.length)) (some (.ref (h.length + 1))) none
  rw [lr] at sl
  have sl7 : s.length ≤ 7 := by have : Str.empty.length = 0 := rfl; omega
  have ha3 : h3[h.length]? = some (some (.lst (ls.map .str))) := ((D3.2.2 _ (by omega)).trans ((D2.2.2 _ (by omega)).trans (D1.2.2 _ (by omega)))).trans ha0
  have hb3 : h3[h.length + 1]? = some (some (.lst (([] : List Str).map .str))) := ((D3.2.2 _ (by omega)).trans ((D2.2.2 _ (by omega)).trans (D1.2.2 _ (by omega)))).trans hb0
  have lrk : (rngA 0 (k : Int)).length = k := by unfold rngA; simp
  obtain ⟨zs, p2, q7, h4, e4, B4, hb4, l4, k4, lz, nz, mz⟩ := found_loop (a := h.length) (b := h.length + 1) (by omega) (by omega) (by omega) (ah := ah) (fun k hk => stC_ok (hs k hk)) sl7 (rngA 0 (k : Int)) ls [] p' none h3 D3.1 ha3 hb3 Sg0 (by rw [lrk]; omega) (by omega) (by rw [lrk]; simp; omega) (some (.int (k : Nat)))
  rw [lrk] at lz
  rw [List.nil_append] at hb4
  have l3 : h3.length = h.length + 2 := by rw [D3.2.1, D2.2.1, D1.2.1, l0]
  refine ⟨zs.map (nmS ah s), h4.set (h.length + 1) none, ?_, by simp [lz], fun w hw => ?_, ?_, ?_, ?_⟩
  · have kd : kEq (.int d) (.int 0) h1 = some (.bl ah, h1) := by rw [kEq_int, hah]
    have hr1 : rOk (mm : Int) = true := by unfold rOk; apply decide_eq_true; omega
    have hr2 : rOk (k : Int) = true := by unfold rOk; apply decide_eq_true; omega
    have hb5 : h4[h.length + 1]? = some (some (.lst ((zs.map (nmS ah s)).map .str))) := hb4
    have c1 := names_c1 ls hls (.ref n) (.int (k : Nat)) h
    rw [← hh0] at c1
    generalize hL : (zs.map (nmS ah s)).map AV.str = L at *
    simp only [c_names, chk, m_names, runF, b_names]
    simp only [List.append_nil, List.length_cons, List.length_nil, List.map_cons, List.map_nil, List.replicate, Nat.reduceAdd, Nat.reduceSub, if_true, List.cons_append, List.nil_append]
    have c2 : sSet 2 (mBin kEq (mCall c_take (mCons (mVar 0) (mCons (mC (.int 2)) mNil))) (mC (.int 0))) [some (.ref n), some (.int (k : Nat)), none, none, some (.ref h.length), some (.ref (h.length + 1)), some (.str Str.empty), none] h0 = .nx [some (.ref n), some (.int (k : Nat)), some (.bl ah), none, some (.ref h.length), some (.ref (h.length + 1)), some (.str Str.empty), none] h1 := by
      simp [e1, kd]
    have c3 : sFor (gN 3) (mRng1 (mCons (mCall c_take (mCons (mVar 0) (mCons (mC (.int 8)) mNil))) mNil)) l0_names [some (.ref n), some (.int (k : Nat)), some (.bl ah), none, some (.ref h.length), some (.ref (h.length + 1)), some (.str Str.empty), none] h1 = .nx [some (.ref n), some (.int (k : Nat)), some (.bl ah), p', some (.ref h.length), some (.ref (h.length + 1)), some (.str s), none] h3 := by
      have ea : (mCons (mCall c_take (mCons (mVar 0) (mCons (mC (.int 8)) mNil))) mNil) [some (.ref n), some (.int (k : Nat)), some (.bl ah), none, some (.ref h.length), some (.ref (h.length + 1)), some (.str Str.empty), none] h1 = .ok [.int (mm : Nat)] h2 := by simp [e2]
      rw [sFor_ev, mRng1_ev, ea, bind_ok, fRng1_ev, if_pos hr1, bindS_ok, fFor_ev, e3]
    have c4 : sFor (gN 3) (mRng1 (mCons (mVar 1) mNil)) l1_names [some (.ref n), some (.int (k : Nat)), some (.bl ah), p', some (.ref h.length), some (.ref (h.length + 1)), some (.str s), none] h3 = .nx [some (.ref n), some (.int (k : Nat)), some (.bl ah), p2, some (.ref h.length), some (.ref (h.length + 1)), some (.str s), q7] h4 := by
      have ea : (mCons (mVar 1) mNil) [some (.ref n), some (.int (k : Nat)), some (.bl ah), p', some (.ref h.length), some (.ref (h.length + 1)), some (.str s), none] h3 = .ok [.int (k : Nat)] h3 := rfl
      rw [sFor_ev, mRng1_ev, ea, bind_ok, fRng1_ev, if_pos hr2, bindS_ok, fFor_ev, e4]
    rw [sSeq_ev, c1, thn_nx, sSeq_ev, c2, thn_nx, sSeq_ev, c3, thn_nx, sSeq_ev, c4, thn_nx]
    have c5 : mKill (mVar 5) [some (.ref n), some (.int (k : Nat)), some (.bl ah), p2, some (.ref h.length), some (.ref (h.length + 1)), some (.str s), q7] h4 = .ok (.fl L) (h4.set (h.length + 1) none) := by
      rw [mKill_ev, show mVar 5 [some (.ref n), some (.int (k : Nat)), some (.bl ah), p2, some (.ref h.length), some (.ref (h.length + 1)), some (.str s), q7] h4 = .ok (.ref (h.length + 1)) h4 from rfl, bind_ok, killA_ref, hb5]
    rw [sRet_ev, c5]
    rfl
  · obtain ⟨z, hz, rfl⟩ := List.mem_map.mp hw
    obtain ⟨z1, zk⟩ := Sg0.1 z (mz z hz)
    exact ⟨nm_fit (fun k hk => stC_ok (hs k hk)) sl7 z1 zk, nm_self hs z1⟩
  · exact List.pairwise_map.mpr (nz.imp fun {a b} c e => c (nm_inj e))
  · exact bag_fr B4 (by rw [List.getElem?_set_ne (by omega)])
  · refine ⟨by simp; omega, fun j hj hn => ?_⟩
    rw [List.getElem?_set_ne (by omega), k4 j hn (by omega) (by omega), D3.2.2 j hn, D2.2.2 j hn, D1.2.2 j hn, k0 j hj]
theorem names_ok {n : Nat} {h : AH} (B : BagAt h n) {k : Nat} (hk : k ≤ 20) : ∃ (ws : List Str) (h' : AH), c_names [.ref n, .int (k : Nat)] h = .ok (.fl (ws.map .str)) h' ∧ ws.length = k ∧ (∀ w, w ∈ ws → fitB w = true) ∧ ws.Nodup ∧ BagAt h' n ∧ Fr n h h' := by
  obtain ⟨ws, h', a, b, c, d⟩ := names_okS B hk
  exact ⟨ws, h', a, b, fun w hw => (c w hw).1, d⟩
end Wk11
namespace Wk11
open PySem PySem.Spec PyProof.Rows L2 PI
theorem keys_ok {n : Nat} {h : AH} (B : BagAt h n) {k : Nat} (hk : k ≤ 20) : ∃ (ks : List Str) (h' : AH), c_keys [.ref n, .int (k : Nat)] h = .ok (.fl (ks.map .str)) h' ∧ ks.length = k ∧ (∀ x, x ∈ ks → keyB x = true) ∧ ks.Nodup ∧ BagAt h' n ∧ Fr n h h' := by
  obtain ⟨d, h1, e1, d0, d1, D1⟩ := take_ok (k := 2) B (by omega) (by omega)
  obtain ⟨j, rfl⟩ : ∃ j : Nat, d = (j : Int) := ⟨d.toNat, by omega⟩
  obtain ⟨os, h2, e2, lo, fo, _, B2, F2⟩ := names_ok D1.1 (k := 1 + j) (by omega)
  obtain ⟨ms, h3, e3, lm, fm, nm, B3, F3⟩ := names_ok B2 hk
  have R0 : ∀ v, v ∈ ms.map AV.str → ∀ h, (BagAt h n ∧ Fr n h3 h) → ∃ τ2 y h2, gE 3 v [some (.ref n), some (.int (k : Nat)), some (.fl (os.map .str)), none] = some τ2 ∧ mBin kAdd (mBin kAdd (mCall c_of (mCons (mVar 0) (mCons (mVar 2) mNil))) (mC (.str "/"))) (mVar 3) τ2 h = .ok y h2 ∧ (∃ o m, fitB o = true ∧ fitB m = true ∧ v = .str m ∧ y = .str (kyS o m)) ∧ BagAt h2 n ∧ Fr n h3 h2 := fun v hv h ⟨B, F⟩ => by
    obtain ⟨m, hm, rfl⟩ := List.mem_map.mp hv
    obtain ⟨w, h5, e5, hw, D5⟩ := of_ok (xs := os.map .str) B (by rw [List.length_map]; omega) (by rw [List.length_map]; omega)
    obtain ⟨o, ho, rfl⟩ := List.mem_map.mp hw
    have f1 := fo o ho
    have f2 := fm m hm
    have l1 := fit_len f1
    have l2 := fit_len f2
    have d1 : o.length + 1 ≤ 16777216 := by omega
    have d2 : (o ++ "/" : Str).length = o.length + 1 := by rw [len_app, sl_len]
    have d3 : o.length + 1 + m.length ≤ 16777216 := by omega
    generalize hL : os.map AV.str = L at *
    refine ⟨[some (.ref n), some (.int (k : Nat)), some (.fl L), some (.str m)], .str (kyS o m), h5, by simp, ?_, ⟨o, m, f1, f2, rfl, rfl⟩, D5.1, F.trans D5.fr⟩
    simp [e5, sl_len, d1, d2, d3, kyS]
  obtain ⟨ys, h4, e4, al, B4, F4⟩ := lcL_eff (fun v y => ∃ o m, fitB o = true ∧ fitB m = true ∧ v = .str m ∧ y = .str (kyS o m)) (fun h => BagAt h n ∧ Fr n h3 h) (ms.map .str) R0 [] h3 ⟨B3, .refl⟩ (by simp; omega)
  obtain ⟨ks, rfl, al2⟩ := al2_strs (P := fun m x => ∃ o, fitB o = true ∧ fitB m = true ∧ x = kyS o m) (fun m y ⟨o, m', a, b, c, d⟩ => by cases c; exact ⟨_, d, o, a, b, rfl⟩) al
  refine ⟨ks, h4, ?_, by rw [← al2.len, lm], fun x hx => ?_, al2.nodup (fun a a' b ⟨o, f, _, e⟩ ⟨o', f', _, e'⟩ => (ky_inj f f' (e.symm.trans e')).2) nm, B4, ((D1.fr.trans F2).trans F3).trans F4⟩
  · have c1 : mCall c_names (mCons (mVar 0) (mCons (mBin kAdd (mC (.int 1)) (mCall c_take (mCons (mVar 0) (mCons (mC (.int 2)) mNil)))) mNil)) [some (.ref n), some (.int (k : Nat)), none, none] h = .ok (.fl (os.map .str)) h2 := by
      have e2 : c_names [.ref n, .int (1 + (j : Int))] h1 = .ok (.fl (os.map .str)) h2 := by rw [show (1 + (j : Int)) = ((1 + j : Nat) : Int) from by omega]; exact e2
      generalize os.map AV.str = L at *
      simp [e1, e2]
    have c2 : mCall c_names (mCons (mVar 0) (mCons (mVar 1) mNil)) [some (.ref n), some (.int (k : Nat)), some (.fl (os.map .str)), none] h2 = .ok (.fl (ms.map .str)) h3 := by
      generalize ms.map AV.str = L at *
      simp [e3]
    rw [List.nil_append] at e4
    generalize ms.map AV.str = L2 at *
    generalize os.map AV.str = L at *
    generalize ks.map AV.str = L3 at *
    simp only [c_keys, chk, m_keys, runF, b_keys]
    simp only [List.append_nil, List.length_cons, List.length_nil, List.map_cons, List.map_nil, List.replicate, Nat.reduceAdd, Nat.reduceSub, if_true, List.cons_append, List.nil_append]
    rw [sSeq_ev, sSet_ev, c1]
    simp only [bindS_ok, fSet_ev]
    rw [if_pos (by simp), thn_nx, sRet_ev, mLc_ev]
    simp only [List.set_cons_succ, List.set_cons_zero]
    rw [show (mIt itL (mCall c_names (mCons (mVar 0) (mCons (mVar 1) mNil)))) [some (.ref n), some (.int (k : Nat)), some (.fl L), none] h2 = .ok L2 h3 from by rw [mIt_ev, c2]; rfl, bind_ok, fLc_ev]
    rw [show wipeA [some (AV.ref n), some (AV.int (k : Nat)), some (AV.fl L), none] [3] = [some (.ref n), some (.int (k : Nat)), some (.fl L), none] from rfl, e4]
    rfl
  · obtain ⟨m, _, o, f1, f2, rfl⟩ := al2.ex x hx
    exact ky_key f1 f2
theorem integer_ok {n : Nat} {h : AH} (B : BagAt h n) : ∃ (i : Int) (h' : AH), c_integer [.ref n] h = .ok (.int i) h' ∧ -GR ≤ i ∧ i ≤ GR ∧ Drew n h h' := by
  obtain ⟨d, h1, e1, d0, d1, D1⟩ := take_ok (k := 7) B (by omega) (by omega)
  have p30 : (10 : Int) ^ 30 = 1000000000000000000000000000000 := by decide
  by_cases hd : d < 5
  · obtain ⟨j, rfl⟩ : ∃ j : Nat, d = (j : Int) := ⟨d.toNat, by omega⟩
    have hj : j < 5 := by omega
    match j, hj with
    | 0, _ => exact ⟨0, h1, by simp [c_integer, m_integer, b_integer, e1], by decide, by decide, D1⟩
    | 1, _ => exact ⟨1, h1, by simp [c_integer, m_integer, b_integer, e1], by decide, by decide, D1⟩
    | 2, _ => exact ⟨-1, h1, by simp [c_integer, m_integer, b_integer, e1], by decide, by decide, D1⟩
    | 3, _ => exact ⟨GR, h1, by simp [c_integer, m_integer, b_integer, e1, GR], by decide, by decide, D1⟩
    | 4, _ => exact ⟨-GR, h1, by simp [c_integer, m_integer, b_integer, e1, GR], by decide, by decide, D1⟩
  · obtain ⟨f, h2, e2, f0, f1, D2⟩ := take_ok (k := 1000000000000000000000000000000) D1.1 (by omega) (by omega)
    by_cases h5 : d = 5
    · exact ⟨f, h2, by simp [c_integer, m_integer, b_integer, e1, h5, e2], by unfold GR; omega, by unfold GR; omega, D1.trans D2⟩
    · exact ⟨0 - f, h2, by simp [c_integer, m_integer, b_integer, e1, hd, h5, e2], by unfold GR; omega, by unfold GR; omega, D1.trans D2⟩
def valB (v : AV) : Bool := match v with
  | .non => true
  | v => intB v
end Wk11
namespace Wk11
open PySem PySem.Spec PyProof.Rows L2 PI
/-! rows and owners that are drawn -/
def rowP (p : Str × Int) : AV := .tup [.str p.1, .int p.2]
theorem appR_ok {m : Nat} {xs : List AV} {v : AV} {h : AH} (e : h[m]? = some (some (.lst xs))) (hl : xs.length < 16777216) : kAppR m [v] h = some (.non, h.set m (some (.lst (xs ++ [v])))) := by
  unfold kAppR
  simp only [e]
  rw [if_pos (show small (xs.length + 1) = true from decide_eq_true (by omega))]
theorem rows_loop {n m : Nat} (hnm : m ≠ n) {L : AV} : ∀ (ls : List Str) (rs : List (Str × Int)) (p : Option AV) (h : AH), BagAt h n → h[m]? = some (some (.lst (rs.map rowP))) → rs.length + ls.length ≤ 1000 →
    ∃ (rs' : List (Str × Int)) (p' : Option AV) (h' : AH), forL (gN 3) l0_rows (ls.map .str) [some (.ref n), some L, some (.ref m), p] h = .nx [some (.ref n), some L, some (.ref m), p'] h' ∧ BagAt h' n ∧ h'[m]? = some (some (.lst ((rs ++ rs').map rowP))) ∧ h'.length = h.length ∧ (∀ j, j ≠ n → j ≠ m → h'[j]? = h[j]?) ∧
      (∀ q, q ∈ rs' → -GR ≤ q.2 ∧ q.2 ≤ GR) ∧ List.Sublist (rs'.map (·.1)) ls
  | [], rs, p, h, B, e, hl => ⟨[], p, h, rfl, B, by simpa using e, rfl, fun _ _ _ => rfl, fun q hq => by simp at hq, by simp⟩
  | k :: ls, rs, p, h, B, e, hl => by
    simp only [List.length_cons] at hl
    obtain ⟨d, h1, e1, d0, d1, D1⟩ := take_ok (k := 2) B (by omega) (by omega)
    have m1 : h1[m]? = some (some (.lst (rs.map rowP))) := (D1.2.2 m hnm).trans e
    by_cases hd : d = 0
    · obtain ⟨i, h2, e2, i0, i1, D2⟩ := integer_ok D1.1
      have m2 : h2[m]? = some (some (.lst (rs.map rowP))) := (D2.2.2 m hnm).trans m1
      have ap := appR_ok (v := .tup [.str k, .int i]) m2 (by rw [List.length_map]; omega)
      obtain ⟨h3, hh3⟩ : ∃ h3, h3 = h2.set m (some (.lst (rs.map rowP ++ [.tup [.str k, .int i]]))) := ⟨_, rfl⟩
      rw [← hh3] at ap
      have m3 : h3[m]? = some (some (.lst ((rs ++ [(k, i)]).map rowP))) := by
        rw [hh3, List.getElem?_set_self (at_lt m2)]
        simp [rowP]
      have k3 : ∀ j, j ≠ m → h3[j]? = h2[j]? := fun j hj => by rw [hh3, List.getElem?_set_ne (fun z => hj z.symm)]
      have B3 : BagAt h3 n := bag_fr D2.1 (k3 n (fun z => hnm z.symm))
      obtain ⟨rs', p', h', ef, B', m', l', kp, rg, sb⟩ := rows_loop hnm ls (rs ++ [(k, i)]) (some (.str k)) h3 B3 m3 (by simp; omega)
      refine ⟨(k, i) :: rs', p', h', ?_, B', by rw [m']; simp, ?_, fun j j1 j2 => ?_, fun q hq => ?_, by simpa using sb⟩
      · rw [List.map_cons, forL_cons (τ1 := [some (.ref n), some L, some (.ref m), some (.str k)]) (τ2 := [some (.ref n), some L, some (.ref m), some (.str k)]) (h2 := h3) (by simp) ?_]
        · exact ef
        · simp [l0_rows, e1, hd, e2, ap, m1]
      · rw [l', hh3, List.length_set, D2.2.1, D1.2.1]
      · rw [kp j j1 j2, k3 j j2, D2.2.2 j j1, D1.2.2 j j1]
      · rcases List.mem_cons.mp hq with rfl | hq
        · exact ⟨i0, i1⟩
        · exact rg q hq
    · obtain ⟨rs', p', h', ef, B', m', l', kp, rg, sb⟩ := rows_loop hnm ls rs (some (.str k)) h1 D1.1 m1 (by omega)
      refine ⟨rs', p', h', ?_, B', m', l'.trans D1.2.1, fun j j1 j2 => (kp j j1 j2).trans (D1.2.2 j j1), rg, List.Sublist.cons _ sb⟩
      rw [List.map_cons, forL_cons (τ1 := [some (.ref n), some L, some (.ref m), some (.str k)]) (τ2 := [some (.ref n), some L, some (.ref m), some (.str k)]) (h2 := h1) (by simp) ?_]
      · exact ef
      · simp [l0_rows, e1, hd]
theorem rows_ok {n : Nat} {h : AH} (B : BagAt h n) {ks : List Str} (hl : ks.length ≤ 100) : ∃ (rs : List (Str × Int)) (h' : AH), c_rows [.ref n, .fl (ks.map .str)] h = .ok (.ref h.length) h' ∧ BagAt h' n ∧ h'[h.length]? = some (some (.lst (rs.map rowP))) ∧ h'.length = h.length + 1 ∧ (∀ j, j ≠ n → j < h.length → h'[j]? = h[j]?) ∧
    (∀ q, q ∈ rs → -GR ≤ q.2 ∧ q.2 ≤ GR) ∧ List.Sublist (rs.map (·.1)) ks := by
  have nl := bag_lt B
  have B0 : BagAt (h ++ [some (.lst [])]) n := bag_fr B (by rw [List.getElem?_append_left nl])
  obtain ⟨rs, p', h', ef, B', m', l', kp, rg, sb⟩ := rows_loop (m := h.length) (by omega) (L := .fl (ks.map .str)) ks [] none (h ++ [some (.lst [])]) B0 (by simp) (by simp; omega)
  refine ⟨rs, h', ?_, B', by simpa using m', by rw [l']; simp, fun j j1 j2 => by rw [kp j j1 (by omega), List.getElem?_append_left j2], rg, sb⟩
  generalize ks.map AV.str = K at *
  simp [c_rows, m_rows, b_rows, ef]
theorem owners_loop {n m : Nat} (hnm : m ≠ n) {L : AV} : ∀ (ls : List Str), (∀ k, k ∈ ls → keyB k = true) → ∀ (os : List Str) (p : Option AV) (h : AH), BagAt h n → h[m]? = some (some (.lst (os.map .str))) → os.length + ls.length ≤ 1000 →
    ∃ (os' : List Str) (p' : Option AV) (h' : AH), forL (gN 3) l0_owners (ls.map .str) [some (.ref n), some L, some (.ref m), p] h = .nx [some (.ref n), some L, some (.ref m), p'] h' ∧ BagAt h' n ∧ h'[m]? = some (some (.lst ((os ++ os').map .str))) ∧ h'.length = h.length ∧ (∀ j, j ≠ n → j ≠ m → h'[j]? = h[j]?) ∧
      (∀ q, q ∈ os' → ∃ k, k ∈ ls ∧ q = ownS k) ∧ os'.length ≤ ls.length
  | [], hk, os, p, h, B, e, hl => ⟨[], p, h, rfl, B, by simpa using e, rfl, fun _ _ _ => rfl, fun q hq => by simp at hq, by simp⟩
  | k :: ls, hk, os, p, h, B, e, hl => by
    simp only [List.length_cons] at hl
    have kk := hk k (by simp)
    have hk' := fun x hx => hk x (List.mem_cons_of_mem k hx)
    obtain ⟨d, h1, e1, d0, d1, D1⟩ := take_ok (k := 3) B (by omega) (by omega)
    have m1 : h1[m]? = some (some (.lst (os.map .str))) := (D1.2.2 m hnm).trans e
    by_cases hd : d = 0
    · have ap := appR_ok (v := .str (ownS k)) m1 (by rw [List.length_map]; omega)
      have hp := kPart_ok sl_sep sl_tx (key_tx kk) h1
      obtain ⟨h3, hh3⟩ : ∃ h3, h3 = h1.set m (some (.lst (os.map .str ++ [.str (ownS k)]))) := ⟨_, rfl⟩
      rw [← hh3] at ap
      have m3 : h3[m]? = some (some (.lst ((os ++ [ownS k]).map .str))) := by
        rw [hh3, List.getElem?_set_self (at_lt m1)]
        simp
      have k3 : ∀ j, j ≠ m → h3[j]? = h1[j]? := fun j hj => by rw [hh3, List.getElem?_set_ne (fun z => hj z.symm)]
      have B3 : BagAt h3 n := bag_fr D1.1 (k3 n (fun z => hnm z.symm))
      obtain ⟨os', p', h', ef, B', m', l', kp, rg, sb⟩ := owners_loop hnm ls hk' (os ++ [ownS k]) (some (.str k)) h3 B3 m3 (by simp; omega)
      refine ⟨ownS k :: os', p', h', ?_, B', by rw [m']; simp, ?_, fun j j1 j2 => ?_, fun q hq => ?_, by simp; omega⟩
      · rw [List.map_cons, forL_cons (τ1 := [some (.ref n), some L, some (.ref m), some (.str k)]) (τ2 := [some (.ref n), some L, some (.ref m), some (.str k)]) (h2 := h3) (by simp) ?_]
        · exact ef
        · have ap : kAppR m [.str (Txt.partition k "/").1] h1 = some (.non, h3) := ap
          simp [l0_owners, e1, hd, hp, ap, m1]
      · rw [l', hh3, List.length_set, D1.2.1]
      · rw [kp j j1 j2, k3 j j2, D1.2.2 j j1]
      · rcases List.mem_cons.mp hq with rfl | hq
        · exact ⟨k, by simp, rfl⟩
        · obtain ⟨x, hx, e⟩ := rg q hq
          exact ⟨x, by simp [hx], e⟩
    · obtain ⟨os', p', h', ef, B', m', l', kp, rg, sb⟩ := owners_loop hnm ls hk' os (some (.str k)) h1 D1.1 m1 (by omega)
      refine ⟨os', p', h', ?_, B', m', l'.trans D1.2.1, fun j j1 j2 => (kp j j1 j2).trans (D1.2.2 j j1), fun q hq => ?_, by simp; omega⟩
      · rw [List.map_cons, forL_cons (τ1 := [some (.ref n), some L, some (.ref m), some (.str k)]) (τ2 := [some (.ref n), some L, some (.ref m), some (.str k)]) (h2 := h1) (by simp) ?_]
        · exact ef
        · simp [l0_owners, e1, hd]
      · obtain ⟨x, hx, e⟩ := rg q hq
        exact ⟨x, by simp [hx], e⟩
theorem owners_ok {n : Nat} {h : AH} (B : BagAt h n) {ks : List Str} (hk : ∀ k, k ∈ ks → keyB k = true) (hl : ks.length ≤ 100) : ∃ (os : List Str) (h' : AH), c_owners [.ref n, .fl (ks.map .str)] h = .ok (.ref h.length) h' ∧ BagAt h' n ∧ h'[h.length]? = some (some (.lst (os.map .str))) ∧ h'.length = h.length + 1 ∧ (∀ j, j ≠ n → j < h.length → h'[j]? = h[j]?) ∧
    (∀ q, q ∈ os → ∃ k, k ∈ ks ∧ q = ownS k) ∧ os.length ≤ ks.length := by
  have nl := bag_lt B
  have B0 : BagAt (h ++ [some (.lst [])]) n := bag_fr B (by rw [List.getElem?_append_left nl])
  obtain ⟨os, p', h', ef, B', m', l', kp, rg, sb⟩ := owners_loop (m := h.length) (by omega) (L := .fl (ks.map .str)) ks hk [] none (h ++ [some (.lst [])]) B0 (by simp) (by simp; omega)
  refine ⟨os, h', ?_, B', by simpa using m', by rw [l']; simp, fun j j1 j2 => by rw [kp j j1 (by omega), List.getElem?_append_left j2], rg, sb⟩
  generalize ks.map AV.str = K at *
  simp [c_owners, m_owners, b_owners, ef]
/-- a loop over a list of the heap that stays as it is: as over the list itself -/
theorem forD_forLi {g : MG} {b : MS} {v : AV} {xs : List AV} (I : AS → AH → Prop) (hI : ∀ τ h, I τ h → lstOf v h = some xs)
    (H : ∀ x, x ∈ xs → ∀ τ h τ1, I τ h → g x τ = some τ1 → ∀ τ2 h2, (b τ1 h = .nx τ2 h2 ∨ b τ1 h = .ct τ2 h2) → I τ2 h2) : ∀ (k i n : Nat), i + k = xs.length → k < n → ∀ τ h, I τ h → forD g b (srcL v) n i τ h = forL g b (xs.drop i) τ h
  | 0, i, n, e, hn, τ, h, q => by
    obtain ⟨n, rfl⟩ : ∃ m, n = m + 1 := ⟨n - 1, by omega⟩
    have hs : srcL v i h = some none := by
      unfold srcL
      rw [hI τ h q]
      simp; omega
    rw [List.drop_of_length_le (by omega), forD, hs, forL]
  | k + 1, i, n, e, hn, τ, h, q => by
    obtain ⟨n, rfl⟩ : ∃ m, n = m + 1 := ⟨n - 1, by omega⟩
    have hi : i < xs.length := by omega
    have hs : srcL v i h = some (some xs[i]) := by
      unfold srcL
      rw [hI τ h q]
      simp [hi]
    rw [List.drop_eq_getElem_cons hi, forD, hs, forL]
    simp only
    cases hg : g xs[i] τ with
    | none => rfl
    | some τ1 =>
      simp only
      cases hb : b τ1 h with
      | nx τ2 h2 => exact forD_forLi I hI H k (i + 1) n (by omega) (by omega) τ2 h2 (H _ (List.getElem_mem hi) τ h τ1 q hg τ2 h2 (.inl hb))
      | ct τ2 h2 => exact forD_forLi I hI H k (i + 1) n (by omega) (by omega) τ2 h2 (H _ (List.getElem_mem hi) τ h τ1 q hg τ2 h2 (.inr hb))
      | bk τ2 h2 => rfl
      | rt _ _ => rfl
      | exc _ _ _ _ => rfl
      | stuck => rfl
theorem forD_forL {g : MG} {b : MS} {v : AV} {xs : List AV} {n : Nat} (I : AS → AH → Prop) (hn : xs.length < n) (hI : ∀ τ h, I τ h → lstOf v h = some xs)
    (H : ∀ x, x ∈ xs → ∀ τ h τ1, I τ h → g x τ = some τ1 → ∀ τ2 h2, (b τ1 h = .nx τ2 h2 ∨ b τ1 h = .ct τ2 h2) → I τ2 h2) (τ : AS) (h : AH) (q : I τ h) : forD g b (srcL v) n 0 τ h = forL g b xs τ h := by
  have := forD_forLi I hI H xs.length 0 n (by omega) hn τ h q
  simpa using this
end Wk11
namespace Wk11
open PySem PySem.Spec PyProof.Rows L2 PI
/-! what a store checks, and what the law awaits -/
def NStr (v : AV) : Prop := ∃ d, (∀ h n, datH h (n + 2) v = some d) ∧ SeqAt.shaped d = true ∧ ∀ x, PyData.eqv (.str x) d = false
def Thg (v : AV) : Prop := gdB v = true ∧ ((∃ x, v = .str x) ∨ NStr v) ∧ ∀ p, p ∈ (["key", "value", "owner", "missing"] : List Str) → selfB (.fl [.str p, v]) = true
def oddX : List AV := oddL ++ [.int (10 ^ 30), .int (-(10 ^ 30)), .str "1"]
theorem self_ss (p x : Str) : selfB (.fl [.str p, .str x]) = true := by
  unfold selfB
  show PyData.eqv (.list [.str p, .str x]) (.list [.str p, .str x]) = true
  simp [PyData.eqv, PyData.eqvAll]
theorem self_si (p : Str) (i : Int) : selfB (.fl [.str p, .int i]) = true := by
  unfold selfB
  show PyData.eqv (.list [.str p, .int i]) (.list [.str p, .int i]) = true
  simp [PyData.eqv, PyData.eqvAll]
theorem thg_str {x : Str} (e : txB x = true) : Thg (.str x) := ⟨e, .inl ⟨x, rfl⟩, fun p _ => self_ss p x⟩
theorem thg_int (i : Int) : Thg (.int i) := ⟨rfl, .inr ⟨.int i, fun _ _ => rfl, rfl, fun _ => rfl⟩, fun p _ => self_si p i⟩
theorem oddX_fin : oddX.all (fun v => gdB v && !isKeyB v && !nameB v && !intB v == !intB v && (["key", "value", "owner", "missing"] : List Str).all (fun p => selfB (.fl [.str p, v]))) = true := by decide +kernel
theorem oddX_ok {v : AV} (hv : v ∈ oddX) : Thg v ∧ isKeyB v = false ∧ nameB v = false := by
  have f := List.all_eq_true.mp oddX_fin v hv
  simp only [Bool.and_eq_true, Bool.not_eq_true', List.all_eq_true] at f
  refine ⟨⟨f.1.1.1.1, ?_, f.2⟩, f.1.1.1.2, f.1.1.2⟩
  unfold oddX oddL at hv
  simp only [List.cons_append, List.nil_append, List.mem_cons, List.not_mem_nil, or_false] at hv
  rcases hv with rfl | rfl | rfl | rfl | rfl | rfl | rfl | rfl | rfl | rfl | rfl | rfl | rfl | rfl | rfl | rfl | rfl | rfl | rfl | rfl | rfl | rfl | rfl | rfl | rfl
  all_goals first
    | exact .inl ⟨_, rfl⟩
    | exact .inr ⟨_, fun _ _ => rfl, by decide +kernel, fun _ => rfl⟩
theorem depth_strs : ∀ ws : List Str, PyData.depthAll (ws.map PyData.str) = 0
  | [] => rfl
  | w :: ws => by rw [List.map_cons, PyData.depthAll, depth_strs ws]; rfl
theorem shaped_strs {ws : List Str} (h : ∀ w, w ∈ ws → PyData.strOk w = true) : SeqAt.shaped (.list (ws.map .str)) = true := by
  unfold SeqAt.shaped
  have a : PyData.canLay0 (.list (ws.map .str)) = true := by
    simp only [PyData.canLay0]
    exact canAll fun d hd => by
      obtain ⟨w, hw, rfl⟩ := List.mem_map.mp hd
      exact h w hw
  rw [a]
  simp [PyData.depth, depth_strs]
theorem any_strs (x : Str) : ∀ ws : List Str, ((ws.map PyData.str).any fun z => PyData.eqv z (.str x)) = decide (x ∈ ws)
  | [] => by simp
  | w :: ws => by
    rw [List.map_cons, List.any_cons, any_strs x ws]
    simp only [PyData.eqv, List.mem_cons]
    by_cases a : w = x
    · simp [a]
    · have : ¬ x = w := fun z => a z.symm
      simp [a, this]
theorem any_no {d : PyData} (hd : ∀ x, PyData.eqv (.str x) d = false) : ∀ ws : List Str, ((ws.map PyData.str).any fun z => PyData.eqv z d) = false
  | [] => rfl
  | w :: ws => by rw [List.map_cons, List.any_cons, any_no hd ws, hd]; rfl
theorem inH_str {neg : Bool} {x : Str} {ws : List Str} {w : AV} {h : AH} (e : lstOf w h = some (ws.map .str)) (ox : PyData.strOk x = true) (ow : ∀ w, w ∈ ws → PyData.strOk w = true) : kInH neg (.str x) w h = some (.bl (if neg then !decide (x ∈ ws) else decide (x ∈ ws)), h) := by
  unfold kInH
  rw [datH_strs e]
  have d1 : datH h 12 (.str x) = some (.str x) := rfl
  have d2 : SeqAt.shaped (.str x) = true := by unfold SeqAt.shaped; simp [PyData.canLay0, ox, PyData.depth]
  rw [d1]
  simp only [d2, shaped_strs ow, Bool.and_self, if_true, any_strs]
theorem inH_no {neg : Bool} {v : AV} {ws : List Str} {w : AV} {h : AH} (e : lstOf w h = some (ws.map .str)) (nv : NStr v) (ow : ∀ w, w ∈ ws → PyData.strOk w = true) : kInH neg v w h = some (.bl neg, h) := by
  obtain ⟨d, d1, d2, d3⟩ := nv
  unfold kInH
  rw [datH_strs e, d1 h 10]
  simp only [d2, shaped_strs ow, Bool.and_self, if_true, any_no d3]
  cases neg <;> rfl
theorem is_value_ok {v : AV} (k : Kd v) (h : AH) : c_is_value [v] h = .ok (.bl (intB v)) h := by
  obtain ⟨n, e⟩ := k
  have h1 := isi_int e h
  have h2 := isi_bool e h
  cases v with
  | int i =>
    by_cases hi : i < 0
    · by_cases q : -i < 1000000000000000000000000000000
      · have : -GR ≤ i ∧ i ≤ GR := by unfold GR; omega
        simp [c_is_value, m_is_value, b_is_value, h1, h2, isI, isBl, intB, hi, q, this]
      · have : ¬ (-GR ≤ i ∧ i ≤ GR) := by unfold GR; omega
        have t2 : decide (-GR ≤ i ∧ i ≤ GR) = false := decide_eq_false this
        simp [-Bool.decide_and, c_is_value, m_is_value, b_is_value, h1, h2, isI, isBl, intB, hi, q, t2]
    · by_cases q : i < 1000000000000000000000000000000
      · have : -GR ≤ i ∧ i ≤ GR := by unfold GR; omega
        simp [c_is_value, m_is_value, b_is_value, h1, h2, isI, isBl, intB, hi, q, this]
      · have : ¬ (-GR ≤ i ∧ i ≤ GR) := by unfold GR; omega
        have t2 : decide (-GR ≤ i ∧ i ≤ GR) = false := decide_eq_false this
        simp [-Bool.decide_and, c_is_value, m_is_value, b_is_value, h1, h2, isI, isBl, intB, hi, q, t2]
  | bl b => simp [c_is_value, m_is_value, b_is_value, h1, h2, isI, isBl, intB]
  | _ => first | (simp [knd] at e; done) | simp [c_is_value, m_is_value, b_is_value, h1, isI, intB]
theorem set_at {h : AH} {m : Nat} {o : Option AO} (e : h[m]? = some o) : h.set m o = h := by
  obtain ⟨hl, e⟩ := List.getElem?_eq_some_iff.mp e
  rw [← e]
  exact List.set_getElem_self hl
end Wk11
namespace Wk11
open PySem PySem.Spec PyProof.Rows L2 PI
/-! what the law awaits -/
def dueR (ks : List Str) : List (AV × AV) → List Str → Option (Str × AV)
  | [], _ => none
  | (k, v) :: r, seen => match k with
    | .str x => if x ∈ ks ∧ ¬ x ∈ seen then if intB v then dueR ks r (seen ++ [x]) else some ("value", v) else some ("key", .str x)
    | k => some ("key", k)
def dueN (os : List Str) : List AV → Option (Str × AV)
  | [] => none
  | v :: r => match v with
    | .str x => if x ∈ os then dueN os r else some ("owner", .str x)
    | v => some ("owner", v)
def pairV (p : AV × AV) : AV := .tup [p.1, p.2]
def GoodR (ks : List Str) (p : AV × AV) : Prop := Thg p.1 ∧ Thg p.2 ∧ ((∃ x, x ∈ ks ∧ p.1 = .str x) ∨ isKeyB p.1 = false)
def GoodN (os : List Str) (v : AV) : Prop := Thg v ∧ ((∃ x, x ∈ os ∧ v = .str x) ∨ nameB v = false)
/-! loops over a list of the heap -/
section
variable {α : Type} {f : α → AV} {all rest : List α} {x : α} {i n r : Nat} {h h2 : AH} {g : MG} {b : MS} {τ τ1 τ2 : AS}
theorem src_at (e : h[r]? = some (some (.lst (all.map f)))) (d : all.drop i = x :: rest) : srcL (.ref r) i h = some (some (f x)) ∧ all.drop (i + 1) = rest := by
  have hi : i < all.length := by
    rcases Nat.lt_or_ge i all.length with q | q
    · exact q
    · rw [List.drop_of_length_le q] at d; cases d
  rw [List.drop_eq_getElem_cons hi] at d
  cases d
  refine ⟨?_, rfl⟩
  unfold srcL
  simp [e, hi]
theorem src_end (e : h[r]? = some (some (.lst (all.map f)))) (d : all.drop i = []) : srcL (.ref r) i h = some none := by
  have hi : all.length ≤ i := by simpa using d
  unfold srcL
  simp [e, hi]
theorem forD_nil (e : h[r]? = some (some (.lst (all.map f)))) (d : all.drop i = []) (hn : 0 < n) : forD g b (srcL (.ref r)) n i τ h = .nx τ h := by
  obtain ⟨n, rfl⟩ : ∃ m, n = m + 1 := ⟨n - 1, by omega⟩
  rw [forD, src_end e d]
theorem forD_nx (e : h[r]? = some (some (.lst (all.map f)))) (d : all.drop i = x :: rest) (hn : 0 < n) (eg : g (f x) τ = some τ1) (eb : b τ1 h = .nx τ2 h2) : forD g b (srcL (.ref r)) n i τ h = forD g b (srcL (.ref r)) (n - 1) (i + 1) τ2 h2 := by
  obtain ⟨n, rfl⟩ : ∃ m, n = m + 1 := ⟨n - 1, by omega⟩
  rw [forD, (src_at e d).1]
  simp only [eg, eb]
  rfl
theorem forD_rt {v : AV} (e : h[r]? = some (some (.lst (all.map f)))) (d : all.drop i = x :: rest) (hn : 0 < n) (eg : g (f x) τ = some τ1) (eb : b τ1 h = .rt v h2) : forD g b (srcL (.ref r)) n i τ h = .rt v h2 := by
  obtain ⟨n, rfl⟩ : ∃ m, n = m + 1 := ⟨n - 1, by omega⟩
  rw [forD, (src_at e d).1]
  simp only [eg, eb]
theorem forD_exc {c : XC} {fs : List (Nat × AV)} (e : h[r]? = some (some (.lst (all.map f)))) (d : all.drop i = x :: rest) (hn : 0 < n) (eg : g (f x) τ = some τ1) (eb : b τ1 h = .exc c fs τ2 h2) : forD g b (srcL (.ref r)) n i τ h = .exc c fs τ2 h2 := by
  obtain ⟨n, rfl⟩ : ∃ m, n = m + 1 := ⟨n - 1, by omega⟩
  rw [forD, (src_at e d).1]
  simp only [eg, eb]
end
section
variable {ks : List Str} (hk : ∀ k, k ∈ ks → keyB k = true)
include hk
theorem dueR_loop {Nm : AV} {s r : Nat} (hrs : r ≠ s) {all : List (AV × AV)} : ∀ (rs : List (AV × AV)), (∀ p, p ∈ rs → GoodR ks p) → ∀ (i n : Nat) (seen : List Str) (p4 p5 p6 : Option AV) (h : AH), all.drop i = rs → rs.length < n → h[r]? = some (some (.lst (all.map pairV))) → (∀ x, x ∈ seen → x ∈ ks) → h[s]? = some (some (.lst (seen.map .str))) → seen.length + rs.length ≤ 1000 →
    (dueR ks rs seen = none ∧ ∃ (p5' p6' : Option AV) (h' : AH) (seen' : List Str), forD (gT 2 (gsCons (gN 5) (gsCons (gN 6) gsNil))) l0_due (srcL (.ref r)) n i [some (.ref r), some Nm, some (.fl (ks.map .str)), some (.ref s), p4, p5, p6] h = .nx [some (.ref r), some Nm, some (.fl (ks.map .str)), some (.ref s), p4, p5', p6'] h' ∧ h' = h.set s (some (.lst (seen'.map .str)))) ∨
    (∃ q v h', dueR ks rs seen = some (q, v) ∧ forD (gT 2 (gsCons (gN 5) (gsCons (gN 6) gsNil))) l0_due (srcL (.ref r)) n i [some (.ref r), some Nm, some (.fl (ks.map .str)), some (.ref s), p4, p5, p6] h = .rt (.fl [.str q, v]) h' ∧ ∃ seen' : List Str, h' = h.set s (some (.lst (seen'.map .str))))
  | [], hg, i, n, seen, p4, p5, p6, h, hd, hn, er, hs, e, hl => .inl ⟨rfl, p5, p6, h, seen, forD_nil er hd hn, (set_at e).symm⟩
  | (k, v) :: rs, hg, i, n, seen, p4, p5, p6, h, hd, hn, er, hs, e, hl => by
    simp only [List.length_cons] at hl hn
    have hn0 : 0 < n := by omega
    obtain ⟨tk, tv, hkk⟩ := hg (k, v) (by simp)
    have oks : ∀ w, w ∈ ks → PyData.strOk w = true := fun w hw => txB_ok (key_tx (hk w hw))
    have osn : ∀ w, w ∈ seen → PyData.strOk w = true := fun w hw => oks w (hs w hw)
    have self : ∃ seen' : List Str, h = h.set s (some (.lst (seen'.map .str))) := ⟨seen, (set_at e).symm⟩
    have pk := (gd_kd tk.1).pl
    have pv := (gd_kd tv.1).pl
    have ls : lstOf (.ref s) h = some (seen.map .str) := by simp [e]
    have eg : ∀ k : AV, gT 2 (gsCons (gN 5) (gsCons (gN 6) gsNil)) (pairV (k, v)) [some (.ref r), some Nm, some (.fl (ks.map .str)), some (.ref s), p4, p5, p6] = some [some (.ref r), some Nm, some (.fl (ks.map .str)), some (.ref s), p4, some k, some v] := fun k => by simp [pairV]
    rcases tk.2.1 with ⟨x, rfl⟩ | nk
    · have ox : PyData.strOk x = true := txB_ok tk.1
      have i1 := inH_str (neg := true) (x := x) (h := h) (show lstOf (.fl (ks.map .str)) h = some (ks.map .str) from rfl) ox oks
      have i2 := inH_str (neg := false) ls ox osn
      have eg := eg (.str x)
      by_cases c1 : x ∈ ks
      · by_cases c2 : x ∈ seen
        · refine .inr ⟨"key", .str x, h, by simp [dueR, c1, c2], forD_rt er hd hn0 eg ?_, self⟩
          generalize ks.map AV.str = K at *
          simp [l0_due, i1, i2, c1, c2]
        · have iv := is_value_ok (gd_kd tv.1) h
          cases hv : intB v with
          | false =>
            rw [hv] at iv
            refine .inr ⟨"value", v, h, by simp [dueR, c1, c2, hv], forD_rt er hd hn0 eg ?_, self⟩
            generalize ks.map AV.str = K at *
            simp [l0_due, i1, i2, c1, c2, pv, iv]
          | true =>
            rw [hv] at iv
            have ap := appR_ok (v := .str x) e (by rw [List.length_map]; omega)
            obtain ⟨h2, hh2⟩ : ∃ h2, h2 = h.set s (some (.lst (seen.map .str ++ [.str x]))) := ⟨_, rfl⟩
            rw [← hh2] at ap
            have m2 : h2[s]? = some (some (.lst ((seen ++ [x]).map .str))) := by rw [hh2, List.getElem?_set_self (at_lt e)]; simp
            have r2 : h2[r]? = some (some (.lst (all.map pairV))) := by rw [hh2, List.getElem?_set_ne (fun z => hrs z.symm)]; exact er
            have st := forD_nx (n := n) (τ2 := [some (.ref r), some Nm, some (.fl (ks.map .str)), some (.ref s), p4, some (.str x), some v]) (h2 := h2) (b := l0_due) er hd hn0 eg (by
              generalize ks.map AV.str = K at *
              simp [l0_due, i1, i2, c1, c2, pv, iv, e, ap])
            have dd : dueR ks ((.str x, v) :: rs) seen = dueR ks rs (seen ++ [x]) := by simp [dueR, c1, c2, hv]
            rw [st, dd]
            rcases dueR_loop hrs rs (fun p hp => hg p (List.mem_cons_of_mem _ hp)) (i + 1) (n - 1) (seen ++ [x]) p4 (some (.str x)) (some v) h2 (src_at er hd).2 (by omega) r2 (fun y hy => by
              rcases List.mem_append.mp hy with hy | hy
              · exact hs y hy
              · rw [List.mem_singleton.mp hy]; exact c1) m2 (by simp; omega) with ⟨q, p5', p6', h', sn, ef, eh⟩ | ⟨q, w, h', ed, ef, sn, eh⟩
            · exact .inl ⟨q, p5', p6', h', sn, ef, by rw [eh, hh2, List.set_set]⟩
            · exact .inr ⟨q, w, h', ed, ef, sn, by rw [eh, hh2, List.set_set]⟩
      · refine .inr ⟨"key", .str x, h, by simp [dueR, c1], forD_rt er hd hn0 eg ?_, self⟩
        generalize ks.map AV.str = K at *
        simp [l0_due, i1, c1]
    · have i1 := inH_no (neg := true) (h := h) (show lstOf (.fl (ks.map .str)) h = some (ks.map .str) from rfl) nk oks
      refine .inr ⟨"key", k, h, ?_, forD_rt er hd hn0 (eg k) ?_, self⟩
      · cases k with
        | str x =>
          obtain ⟨d, d1, _, d3⟩ := nk
          have : d = .str x := by have := d1 [] 0; cases this; rfl
          subst this
          have := d3 x
          simp [PyData.eqv] at this
        | _ => rfl
      · generalize ks.map AV.str = K at *
        simp [l0_due, i1, pk]
theorem own_comp {R Nm S : AV} {p4 p5 p6 : Option AV} (h : AH) (hl : ks.length ≤ 1000) : mLc [5] (gE 5) (mIt itL (mVar 2)) mYes (mBin kIx (mM1 kPart (mVar 5) (mC (.str "/"))) (mC (.int 0))) [some R, some Nm, some (.fl (ks.map .str)), some S, p4, p5, p6] h = .ok (.fl ((ks.map ownS).map .str)) h := by
  rw [mLc_ev, show mIt itL (mVar 2) [some R, some Nm, some (.fl (ks.map .str)), some S, p4, p5, p6] h = .ok (ks.map .str) h from rfl]
  simp only [bind_ok, fLc_ev]
  rw [lcL_map (fun v => match v with | .str k => .str (ownS k) | _ => .non) (ks.map .str) (fun v hv => ?_) (by rw [List.length_map]; omega)]
  · rw [List.map_map, List.map_map]
    rfl
  · obtain ⟨k, hkk, rfl⟩ := List.mem_map.mp hv
    have hp := kPart_ok sl_sep sl_tx (key_tx (hk k hkk)) h
    refine ⟨[some R, some Nm, some (.fl (ks.map .str)), some S, p4, some (.str k), p6], by simp [wipeA], ?_⟩
    generalize ks.map AV.str = K at *
    simp [hp, ownS]
theorem dueN_loop {R S : AV} {m : Nat} (hl : ks.length ≤ 1000) {all : List AV} : ∀ (ns : List AV), (∀ v, v ∈ ns → GoodN (ks.map ownS) v) → ∀ (i n : Nat) (p4 p5 p6 : Option AV) (h : AH), all.drop i = ns → ns.length < n → h[m]? = some (some (.lst (all.map id))) →
    (dueN (ks.map ownS) ns = none ∧ ∃ p4', forD (gN 4) l1_due (srcL (.ref m)) n i [some R, some (.ref m), some (.fl (ks.map .str)), some S, p4, p5, p6] h = .nx [some R, some (.ref m), some (.fl (ks.map .str)), some S, p4', p5, p6] h) ∨
    (∃ q v, dueN (ks.map ownS) ns = some (q, v) ∧ forD (gN 4) l1_due (srcL (.ref m)) n i [some R, some (.ref m), some (.fl (ks.map .str)), some S, p4, p5, p6] h = .rt (.fl [.str q, v]) h)
  | [], hg, i, n, p4, p5, p6, h, hd, hn, er => .inl ⟨rfl, p4, forD_nil er hd hn⟩
  | v :: ns, hg, i, n, p4, p5, p6, h, hd, hn, er => by
    simp only [List.length_cons] at hn
    have hn0 : 0 < n := by omega
    obtain ⟨tv, _⟩ := hg v (by simp)
    have pv := (gd_kd tv.1).pl
    have oo : ∀ w, w ∈ ks.map ownS → PyData.strOk w = true := fun w hw => by
      obtain ⟨k, hkk, rfl⟩ := List.mem_map.mp hw
      exact txB_ok (fit_tx (own_fit (hk k hkk)))
    have oc := own_comp hk (R := R) (Nm := .ref m) (S := S) (p4 := some v) (p5 := p5) (p6 := p6) h hl
    have eg : gN 4 (id v) [some R, some (.ref m), some (.fl (ks.map .str)), some S, p4, p5, p6] = some [some R, some (.ref m), some (.fl (ks.map .str)), some S, some v, p5, p6] := by simp
    have mv : mVar 4 [some R, some (.ref m), some (.fl (ks.map .str)), some S, some v, p5, p6] h = .ok v h := by
      unfold mVar
      simp [pv]
    rcases tv.2.1 with ⟨x, rfl⟩ | nv
    · have i1 := inH_str (neg := true) (x := x) (h := h) (show lstOf (.fl ((ks.map ownS).map .str)) h = some ((ks.map ownS).map .str) from rfl) (txB_ok tv.1) oo
      by_cases c1 : x ∈ ks.map ownS
      · have st := forD_nx (n := n) (τ2 := [some R, some (.ref m), some (.fl (ks.map .str)), some S, some (.str x), p5, p6]) (h2 := h) (b := l1_due) er hd hn0 eg (by
          unfold l1_due
          rw [sIf_ev, mB_ev, mBin_ev, mv, bind_ok, fBin_ev, oc, bind_ok, fBin2_ev, i1]
          simp [c1])
        have dd : dueN (ks.map ownS) (.str x :: ns) = dueN (ks.map ownS) ns := by rw [dueN, if_pos c1]
        rw [st, dd]
        exact dueN_loop hl ns (fun w hw => hg w (List.mem_cons_of_mem _ hw)) (i + 1) (n - 1) _ p5 p6 h (src_at er hd).2 (by omega) er
      · refine .inr ⟨"owner", .str x, by rw [dueN, if_neg c1], forD_rt er hd hn0 eg ?_⟩
        unfold l1_due
        rw [sIf_ev, mB_ev, mBin_ev, mv, bind_ok, fBin_ev, oc, bind_ok, fBin2_ev, i1]
        simp [c1]
    · have i1 := inH_no (neg := true) (h := h) (show lstOf (.fl ((ks.map ownS).map .str)) h = some ((ks.map ownS).map .str) from rfl) nv oo
      refine .inr ⟨"owner", v, ?_, forD_rt er hd hn0 eg ?_⟩
      · cases v with
        | str x =>
          obtain ⟨d, d1, _, d3⟩ := nv
          have : d = .str x := by have := d1 [] 0; cases this; rfl
          subst this
          have := d3 x
          simp [PyData.eqv] at this
        | _ => rfl
      · unfold l1_due
        rw [sIf_ev, mB_ev, mBin_ev, mv, bind_ok, fBin_ev, oc, bind_ok, fBin2_ev, i1]
        simp [pv]
def dueA : Option (Str × AV) → AV
  | none => .non
  | some (q, v) => .fl [.str q, v]
def dueO (ks : List Str) (rs : List (AV × AV)) (ns : List AV) : Option (Str × AV) := match dueR ks rs [] with
  | some p => some p
  | none => dueN (ks.map ownS) ns
theorem due_ok {r m : Nat} {rs : List (AV × AV)} {ns : List AV} {h : AH} (er : h[r]? = some (some (.lst (rs.map pairV)))) (em : h[m]? = some (some (.lst ns))) (gr : ∀ p, p ∈ rs → GoodR ks p) (gn : ∀ v, v ∈ ns → GoodN (ks.map ownS) v) (lr : rs.length < 100) (ln : ns.length < 100) (lk : ks.length ≤ 1000) :
    ∃ h', c_due [.ref r, .ref m, .fl (ks.map .str)] h = .ok (dueA (dueO ks rs ns)) h' ∧ Kp h h' := by
  have hr := at_lt er
  have hm := at_lt em
  have k0 : Kp h (h ++ [some (AO.lst [])]) := Kp.app
  have kset : ∀ seen : List Str, Kp h ((h ++ [some (AO.lst [])]).set h.length (some (AO.lst (seen.map AV.str)))) := fun seen => by
    refine ⟨by simp, fun j hj => ?_⟩
    rw [List.getElem?_set_ne (by omega), List.getElem?_append_left hj]
  have er1 : (h ++ [some (AO.lst [])])[r]? = some (some (.lst (rs.map pairV))) := by rw [List.getElem?_append_left hr]; exact er
  have e0 : ∀ p3 p4 p5 p6 : Option AV, sSet 3 (mL kLst mNil) [some (.ref r), some (.ref m), some (.fl (ks.map .str)), p3, p4, p5, p6] h = .nx [some (.ref r), some (.ref m), some (.fl (ks.map .str)), some (.ref h.length), p4, p5, p6] (h ++ [some (AO.lst [])]) := fun _ _ _ _ => by simp
  have is1 : ∀ τ h, τ[0]? = some (some (.ref r)) → h[r]? = some (some (.lst (rs.map pairV))) → mSrc srcL (mVar 0) τ h = .ok (srcL (.ref r)) h := fun τ h e1 e2 => by
    simp [mVar, e1, e2]
  show ∃ h', runF 7 b_due ([.ref r, .ref m, .fl (ks.map .str)] ++ [] : List AV) h = _ ∧ _
  rw [runF_ev]
  have st : ([.ref r, .ref m, .fl (ks.map .str)] ++ [] : List AV).map some ++ List.replicate (7 - ([.ref r, .ref m, .fl (ks.map .str)] ++ [] : List AV).length) none = [some (.ref r), some (.ref m), some (.fl (ks.map .str)), none, none, none, none] := rfl
  rw [st]
  unfold b_due
  rw [sSeq_ev, e0, thn_nx, sSeq_ev, sForD_ev, is1 _ _ rfl er1]
  simp only [bindS_ok, fForD_ev]
  rcases dueR_loop hk (Nm := .ref m) (s := h.length) (r := r) (by omega) rs gr 0 100 [] none none none (h ++ [some (AO.lst [])]) rfl (by omega) er1 (fun x hx => by simp at hx) (by simp) (by simp; omega) with ⟨q, p5, p6, h1, seen, ef, eh⟩ | ⟨q, v, h1, ed, ef, seen, eh⟩
  · rw [ef, thn_nx]
    have em1 : h1[m]? = some (some (.lst (ns.map id))) := by rw [eh, (kset seen).2 m hm, List.map_id]; exact em
    have is2 : mSrc srcL (mVar 1) [some (.ref r), some (.ref m), some (.fl (ks.map .str)), some (.ref h.length), none, p5, p6] h1 = .ok (srcL (.ref m)) h1 := by
      simp [mVar, em1]
    rw [sSeq_ev, sForD_ev, is2]
    simp only [bindS_ok, fForD_ev]
    rcases dueN_loop hk (R := .ref r) (S := .ref h.length) (m := m) lk ns gn 0 100 none p5 p6 h1 rfl (by omega) em1 with ⟨q2, p4, ef2⟩ | ⟨q2, v, ed, ef2⟩
    · rw [ef2, thn_nx]
      exact ⟨h1, by simp [dueO, q, q2, dueA], by rw [eh]; exact kset seen⟩
    · rw [ef2]
      exact ⟨h1, by simp [dueO, q, ed, dueA], by rw [eh]; exact kset seen⟩
  · rw [ef]
    exact ⟨h1, by simp [dueO, ed, dueA], by rw [eh]; exact kset seen⟩
end
end Wk11
namespace Wk11
open PySem PySem.Spec PyProof.Rows L2 PI
/-! a store's dicts -/
def gD (l : List (Str × AV)) : List (Key × AV) := l.map fun p => (.inr p.1, p.2)
theorem any_gD (x : Str) : ∀ l : List (Str × AV), ((gD l).any fun kv => decide (kv.1 = (.inr x : Key))) = decide (x ∈ l.map (·.1))
  | [] => by simp [gD]
  | p :: l => by
    have ih := any_gD x l
    unfold gD at *
    rw [List.map_cons, List.any_cons, ih]
    by_cases a : p.1 = x
    · simp [a]
    · have : ¬ x = p.1 := fun z => a z.symm
      simp [a, this]
theorem val_gD (x : Str) : ∀ l : List (Str × AV), (valA (gD l) (.inr x)).isSome = decide (x ∈ l.map (·.1))
  | [] => by simp [gD, valA]
  | p :: l => by
    have ih := val_gD x l
    unfold gD valA at *
    rw [List.map_cons, List.find?_cons]
    by_cases a : p.1 = x
    · simp [a]
    · have b : ¬ x = p.1 := fun z => a z.symm
      have c : decide ((Sum.inr p.1 : Key) = .inr x) = false := decide_eq_false (fun z => a (Sum.inr.inj z))
      simp only [c]
      rw [ih]
      simp [b]
theorem put_new {x : Str} {v : AV} {l : List (Str × AV)} (h : ¬ x ∈ l.map (·.1)) : putA (gD l) (.inr x) v = gD (l ++ [(x, v)]) := by
  unfold putA
  rw [any_gD, decide_eq_false h, if_neg (by simp)]
  simp [gD]
theorem put_gD (x : Str) (v : AV) (l : List (Str × AV)) : ∃ l', putA (gD l) (.inr x) v = gD l' ∧ (∀ p, p ∈ l' → p ∈ l ∨ p = (x, v)) ∧ l'.length ≤ l.length + 1 ∧ valA (gD l') (.inr x) = some v := by
  by_cases h : x ∈ l.map (·.1)
  · refine ⟨l.map fun p => if p.1 = x then (p.1, v) else p, ?_, fun p hp => ?_, by simp, ?_⟩
    · unfold putA
      rw [any_gD, decide_eq_true h, if_pos rfl]
      unfold gD
      rw [List.map_map, List.map_map]
      refine List.map_congr_left fun p _ => ?_
      simp only [Function.comp_apply]
      by_cases a : p.1 = x
      · rw [if_pos (by rw [a]), if_pos a]
      · rw [if_neg (fun z => a (Sum.inr.inj z)), if_neg a]
    · obtain ⟨q, hq, rfl⟩ := List.mem_map.mp hp
      by_cases a : q.1 = x
      · rw [if_pos a, a]; exact .inr rfl
      · rw [if_neg a]; exact .inl hq
    · induction l with
      | nil => simp at h
      | cons q l ih =>
        rw [List.map_cons]
        unfold gD valA
        rw [List.map_cons, List.find?_cons]
        by_cases a : q.1 = x
        · simp [a]
        · have c : decide ((Sum.inr (if q.1 = x then (q.1, v) else q).1 : Key) = .inr x) = false := by rw [if_neg a]; exact decide_eq_false (fun z => a (Sum.inr.inj z))
          simp only [c]
          have h2 : x ∈ l.map (·.1) := by
            rw [List.map_cons, List.mem_cons] at h
            exact h.resolve_left (fun z => a z.symm)
          exact ih h2
  · refine ⟨l ++ [(x, v)], put_new h, fun p hp => ?_, by simp, ?_⟩
    · rcases List.mem_append.mp hp with hp | hp
      · exact .inl hp
      · exact .inr (List.mem_singleton.mp hp)
    · unfold gD valA
      rw [List.map_append, List.find?_append]
      have : (List.map (fun p => ((Sum.inr p.1 : Key), p.2)) l).find? (fun kv => decide (kv.1 = .inr x)) = none := by
        rw [List.find?_eq_none]
        intro kv hkv
        obtain ⟨p, hp, rfl⟩ := List.mem_map.mp hkv
        simp only [decide_eq_true_eq]
        exact fun z => h (List.mem_map.mpr ⟨p, hp, Sum.inr.inj z⟩)
      rw [this]
      simp
def IntL (ks : List Str) (l : List (Str × AV)) : Prop := ∀ p, p ∈ l → p.1 ∈ ks ∧ ∃ i : Int, p.2 = .int i
def TruL (l : List (Str × AV)) : Prop := ∀ p, p ∈ l → fitB p.1 = true ∧ p.2 = .bl true
theorem merge_gD : ∀ (ps acc : List (Str × AV)), TruL ps → TruL acc → ∃ b, mergeA (gD acc) (gD ps) = gD b ∧ TruL b ∧ b.length ≤ acc.length + ps.length
  | [], acc, _, ha => ⟨acc, rfl, ha, by simp⟩
  | p :: ps, acc, hp, ha => by
    obtain ⟨l, e, hm, hl, _⟩ := put_gD p.1 p.2 acc
    obtain ⟨b, eb, tb, lb⟩ := merge_gD ps l (fun q hq => hp q (List.mem_cons_of_mem _ hq)) (fun q hq => by
      rcases hm q hq with h | rfl
      · exact ha q h
      · exact hp p (by simp))
    refine ⟨b, ?_, tb, by simp; omega⟩
    rw [← eb, ← e]
    rfl
theorem mapM_pair : ∀ l : List (Str × AV), (l.map fun p => AV.tup [.str p.1, p.2]).mapM pairA = some (gD l)
  | [] => rfl
  | p :: l => by
    have ih := mapM_pair l
    rw [List.map_cons, List.mapM_cons, ih]
    rfl
section
variable {ks : List Str} (hk : ∀ k, k ∈ ks → keyB k = true)
include hk
theorem good_key {p : AV × AV} (g : GoodR ks p) : isKeyB p.1 = (match p.1 with | .str x => decide (x ∈ ks) | _ => false) := by
  obtain ⟨t, _, ⟨x, hx, e⟩ | e⟩ := g
  · rw [e]
    simp only [hx, decide_true]
    exact hk x hx
  · cases q : p.1 with
    | str x =>
      rw [q] at e
      rw [e]
      simp only
      refine (decide_eq_false fun hx => ?_).symm
      have : keyB x = false := e
      rw [hk x hx] at this
      cases this
    | _ => rw [q] at e; exact e
theorem chkR_loop {d r : Nat} (hrd : r ≠ d) {all : List (AV × AV)} : ∀ (rs : List (AV × AV)), (∀ p, p ∈ rs → GoodR ks p) → ∀ (i n : Nat) (l : List (Str × AV)) (p2 p3 : Option AV) (h : AH), all.drop i = rs → rs.length < n → h[r]? = some (some (.lst (all.map pairV))) → IntL ks l → h[d]? = some (some (.dk (gD l))) → l.length + rs.length ≤ 1000 →
    (dueR ks rs (l.map (·.1)) = none ∧ ∃ (p2' p3' : Option AV) (l' : List (Str × AV)), forD (gT 2 (gsCons (gN 2) (gsCons (gN 3) gsNil))) l0_checked_rows (srcL (.ref r)) n i [some (.ref r), some (.ref d), p2, p3] h = .nx [some (.ref r), some (.ref d), p2', p3'] (h.set d (some (.dk (gD l')))) ∧ IntL ks l' ∧ l'.length ≤ l.length + rs.length) ∨
    (∃ q v τ' l', dueR ks rs (l.map (·.1)) = some (q, v) ∧ forD (gT 2 (gsCons (gN 2) (gsCons (gN 3) gsNil))) l0_checked_rows (srcL (.ref r)) n i [some (.ref r), some (.ref d), p2, p3] h = .exc (.own 1) [(1, v), (0, .str q)] τ' (h.set d (some (.dk (gD l')))))
  | [], hg, i, n, l, p2, p3, h, hd, hn, er, il, e, hl => .inl ⟨rfl, p2, p3, l, by rw [set_at e]; exact forD_nil er hd hn, il, by simp⟩
  | (k, v) :: rs, hg, i, n, l, p2, p3, h, hd, hn, er, il, e, hl => by
    simp only [List.length_cons] at hl hn
    have hn0 : 0 < n := by omega
    have g := hg (k, v) (by simp)
    obtain ⟨tk, tv, hkk⟩ := id g
    have gk := good_key hk g
    have pk := (gd_kd tk.1).pl
    have pv := (gd_kd tv.1).pl
    have nk := (gd_kd tk.1).ne
    have nv := (gd_kd tv.1).ne
    have ik := is_key_ok tk.1 h
    have iv := is_integer_ok (gd_kd tv.1) h
    have eg : gT 2 (gsCons (gN 2) (gsCons (gN 3) gsNil)) (pairV (k, v)) [some (.ref r), some (.ref d), p2, p3] = some [some (.ref r), some (.ref d), some k, some v] := by simp [pairV]
    have bad : isKeyB k = false → dueR ks ((k, v) :: rs) (l.map (·.1)) = some (("key" : Str), k) ∧ ∃ τ' l', forD (gT 2 (gsCons (gN 2) (gsCons (gN 3) gsNil))) l0_checked_rows (srcL (.ref r)) n i [some (.ref r), some (.ref d), p2, p3] h = .exc (.own 1) [(1, k), (0, .str "key")] τ' (h.set d (some (.dk (gD l')))) := fun b => by
      refine ⟨?_, [some (.ref r), some (.ref d), some k, some v], l, ?_⟩
      · rw [b] at gk
        cases k with
        | str x =>
          simp only at gk
          have : ¬ x ∈ ks := of_decide_eq_false gk.symm
          simp [dueR, this]
        | _ => rfl
      · rw [set_at e]
        refine forD_exc er hd hn0 eg ?_
        rw [b] at ik
        simp [l0_checked_rows, ik, pk, nk]
    cases hb : isKeyB k with
    | false =>
      obtain ⟨b1, τ', l', b2⟩ := bad hb
      exact .inr ⟨_, _, τ', l', b1, b2⟩
    | true =>
      rw [hb] at ik gk
      obtain ⟨x, rfl⟩ : ∃ x, k = .str x := by cases k <;> first | exact ⟨_, rfl⟩ | (simp at gk; done)
      have c1 : x ∈ ks := of_decide_eq_true gk.symm
      have vx := val_gD x l
      by_cases c2 : x ∈ l.map (·.1)
      · rw [decide_eq_true c2] at vx
        refine .inr ⟨"key", .str x, [some (.ref r), some (.ref d), some (.str x), some v], l, by simp only [dueR]; rw [if_neg (fun z => z.2 c2)], ?_⟩
        rw [set_at e]
        refine forD_exc er hd hn0 eg ?_
        simp [l0_checked_rows, ik, e, vx]
      · rw [decide_eq_false c2] at vx
        cases hv : intB v with
        | false =>
          rw [hv] at iv
          refine .inr ⟨"value", v, [some (.ref r), some (.ref d), some (.str x), some v], l, by simp only [dueR]; rw [if_pos ⟨c1, c2⟩, hv]; rfl, ?_⟩
          rw [set_at e]
          refine forD_exc er hd hn0 eg ?_
          simp [l0_checked_rows, ik, e, vx, iv, pv, nv]
        | true =>
          rw [hv] at iv
          obtain ⟨j, rfl⟩ : ∃ j : Int, v = .int j := by cases v <;> first | exact ⟨_, rfl⟩ | (simp [intB] at hv; done)
          have pn := put_new (v := .int j) c2
          have sm : (gD l).length + 1 ≤ 16777216 := by unfold gD; rw [List.length_map]; omega
          have st := forD_nx (n := n) (τ2 := [some (.ref r), some (.ref d), some (.str x), some (.int j)]) (h2 := h.set d (some (.dk (gD (l ++ [(x, .int j)]))))) (b := l0_checked_rows) er hd hn0 eg (by
            simp [l0_checked_rows, ik, e, vx, iv, pn, sm])
          have dd : dueR ks ((.str x, .int j) :: rs) (l.map (·.1)) = dueR ks rs ((l ++ [(x, AV.int j)]).map (·.1)) := by
            simp only [dueR]
            rw [if_pos ⟨c1, c2⟩, hv, if_pos rfl]
            simp
          rw [st, dd]
          have r2 : (h.set d (some (AO.dk (gD (l ++ [(x, AV.int j)])))))[r]? = some (some (.lst (all.map pairV))) := by rw [List.getElem?_set_ne (fun z => hrd z.symm)]; exact er
          rcases chkR_loop hrd rs (fun p hp => hg p (List.mem_cons_of_mem _ hp)) (i + 1) (n - 1) (l ++ [(x, .int j)]) (some (.str x)) (some (.int j)) _ (src_at er hd).2 (by omega) r2 (fun p hp => by
            rcases List.mem_append.mp hp with hp | hp
            · exact il p hp
            · rw [List.mem_singleton.mp hp]; exact ⟨c1, j, rfl⟩) (at_set e) (by simp; omega) with ⟨q, p2', p3', l', ef, il', ll⟩ | ⟨q, w, τ', l', ed, ef⟩
          · exact .inl ⟨q, p2', p3', l', by rw [ef, List.set_set], il', by simp at ll ⊢; omega⟩
          · exact .inr ⟨q, w, τ', l', ed, by rw [ef, List.set_set]⟩
theorem chkR_ok {r : Nat} {rs : List (AV × AV)} {h : AH} (er : h[r]? = some (some (.lst (rs.map pairV)))) (gr : ∀ p, p ∈ rs → GoodR ks p) (lr : rs.length < 100) :
    (dueR ks rs [] = none ∧ ∃ (l : List (Str × AV)), c_checked_rows [.ref r] h = .ok (.ref h.length) (h ++ [some (.dk (gD l))]) ∧ IntL ks l ∧ l.length ≤ rs.length) ∨
    (∃ q v h', dueR ks rs [] = some (q, v) ∧ c_checked_rows [.ref r] h = .exc (.own 1) [(1, v), (0, .str q)] h' ∧ Kp h h') := by
  have hr := at_lt er
  have er1 : (h ++ [some (AO.dk (gD []))])[r]? = some (some (.lst (rs.map pairV))) := by rw [List.getElem?_append_left hr]; exact er
  have sa : ∀ o : AO, (h ++ [some (AO.dk (gD []))]).set h.length (some o) = h ++ [some o] := fun o => by simp
  show (_ ∧ ∃ l, runF 4 b_checked_rows ([.ref r] ++ [] : List AV) h = _ ∧ _) ∨ (∃ q v h', _ ∧ runF 4 b_checked_rows ([.ref r] ++ [] : List AV) h = _ ∧ _)
  have st : runF 4 b_checked_rows ([.ref r] ++ [] : List AV) h = (b_checked_rows [some (.ref r), none, none, none] h).fin := rfl
  have e0 : sSet 1 mDNew [some (.ref r), none, none, none] h = .nx [some (.ref r), some (.ref h.length), none, none] (h ++ [some (AO.dk (gD []))]) := by
    simp [gD]
  have is1 : mSrc srcL (mVar 0) [some (.ref r), some (.ref h.length), none, none] (h ++ [some (AO.dk (gD []))]) = .ok (srcL (.ref r)) (h ++ [some (AO.dk (gD []))]) := by
    simp [mVar, er1]
  rw [st]
  unfold b_checked_rows
  rw [sSeq_ev, e0, thn_nx, sSeq_ev, sForD_ev, is1]
  simp only [bindS_ok, fForD_ev]
  rcases chkR_loop hk (d := h.length) (r := r) (by omega) rs gr 0 100 [] none none (h ++ [some (AO.dk (gD []))]) rfl (by omega) er1 (fun p hp => by simp at hp) (by simp) (by simp; omega) with ⟨q, p2', p3', l, ef, il, ll⟩ | ⟨q, v, τ', l, ed, ef⟩
  · rw [ef, thn_nx, sa]
    exact .inl ⟨q, l, by simp, il, by simpa using ll⟩
  · rw [ef, sa]
    exact .inr ⟨q, v, _, ed, rfl, Kp.app⟩
end
end Wk11
namespace Wk11
open PySem PySem.Spec PyProof.Rows L2 PI
def pL : List Str := ["key", "value", "owner", "missing"]
theorem dueR_thg {ks : List Str} {q : Str} {v : AV} : ∀ (rs : List (AV × AV)) (seen : List Str), (∀ p, p ∈ rs → GoodR ks p) → dueR ks rs seen = some (q, v) → Thg v ∧ q ∈ pL
  | [], seen, hg, e => by simp [dueR] at e
  | (k, w) :: rs, seen, hg, e => by
    obtain ⟨tk, tw, _⟩ := hg (k, w) (by simp)
    cases k with
    | str x =>
      simp only [dueR] at e
      by_cases c : x ∈ ks ∧ ¬ x ∈ seen
      · rw [if_pos c] at e
        by_cases hv : intB w = true
        · rw [if_pos hv] at e
          exact dueR_thg rs _ (fun p hp => hg p (List.mem_cons_of_mem _ hp)) e
        · rw [if_neg hv] at e
          cases e
          exact ⟨tw, by decide⟩
      · rw [if_neg c] at e
        cases e
        exact ⟨tk, by decide⟩
    | _ =>
      have e : some (("key" : Str), _) = some (q, v) := e
      cases e
      exact ⟨tk, by decide⟩
theorem dueN_thg {os : List Str} {q : Str} {v : AV} : ∀ (ns : List AV), (∀ v, v ∈ ns → GoodN os v) → dueN os ns = some (q, v) → Thg v ∧ q ∈ pL
  | [], hg, e => by simp [dueN] at e
  | w :: ns, hg, e => by
    have tw := (hg w (by simp)).1
    cases w with
    | str x =>
      rw [dueN] at e
      by_cases c : x ∈ os
      · rw [if_pos c] at e
        exact dueN_thg ns (fun p hp => hg p (List.mem_cons_of_mem _ hp)) e
      · rw [if_neg c] at e
        cases e
        exact ⟨tw, by decide⟩
    | _ =>
      have e : some (("owner" : Str), _) = some (q, v) := e
      cases e
      exact ⟨tw, by decide⟩
theorem dueO_thg {ks : List Str} {q : Str} {v : AV} {rs : List (AV × AV)} {ns : List AV} (gr : ∀ p, p ∈ rs → GoodR ks p) (gn : ∀ v, v ∈ ns → GoodN (ks.map ownS) v) (e : dueO ks rs ns = some (q, v)) : Thg v ∧ q ∈ pL := by
  unfold dueO at e
  split at e
  · rename_i p h
    cases e
    exact dueR_thg rs [] gr h
  · exact dueN_thg ns gn e
theorem dueA_self {ks : List Str} {rs : List (AV × AV)} {ns : List AV} (gr : ∀ p, p ∈ rs → GoodR ks p) (gn : ∀ v, v ∈ ns → GoodN (ks.map ownS) v) (h : AH) : kNeH (dueA (dueO ks rs ns)) (dueA (dueO ks rs ns)) h = some (.bl false, h) := by
  cases e : dueO ks rs ns with
  | none => rfl
  | some p =>
    obtain ⟨q, v⟩ := p
    obtain ⟨t, hq⟩ := dueO_thg gr gn e
    exact neH_self (t.2.2 q hq) h
def inO (os : List Str) (v : AV) : Bool := match v with
  | .str x => decide (x ∈ os)
  | _ => false
section
variable {ks : List Str} (hk : ∀ k, k ∈ ks → keyB k = true)
include hk
theorem good_name {v : AV} (g : GoodN (ks.map ownS) v) : nameB v = inO (ks.map ownS) v := by
  obtain ⟨t, ⟨x, hx, e⟩ | e⟩ := g
  · rw [e]
    show nameB (.str x) = decide (x ∈ ks.map ownS)
    rw [decide_eq_true hx]
    obtain ⟨k, hkk, rfl⟩ := List.mem_map.mp hx
    exact own_fit (hk k hkk)
  · cases v with
    | str x =>
      rw [e]
      show false = decide (x ∈ ks.map ownS)
      refine (decide_eq_false fun hx => ?_).symm
      obtain ⟨k, hkk, rfl⟩ := List.mem_map.mp hx
      have : fitB (ownS k) = false := e
      rw [own_fit (hk k hkk)] at this
      cases this
    | _ => exact e
theorem chkN_loop {K : AV} {b m : Nat} (hbm : m ≠ b) {all : List AV} : ∀ (ns : List AV), (∀ v, v ∈ ns → GoodN (ks.map ownS) v) → ∀ (i n : Nat) (l : List (Str × AV)) (p3 p4 : Option AV) (h : AH), all.drop i = ns → ns.length < n → h[m]? = some (some (.lst (all.map id))) → TruL l → h[b]? = some (some (.dk (gD l))) → l.length + ns.length ≤ 1000 →
    (dueN (ks.map ownS) ns = none ∧ ∃ (p3' : Option AV) (l' : List (Str × AV)), forD (gN 3) l0_checked_owners (srcL (.ref m)) n i [some K, some (.ref m), some (.ref b), p3, p4] h = .nx [some K, some (.ref m), some (.ref b), p3', p4] (h.set b (some (.dk (gD l')))) ∧ TruL l' ∧ l'.length ≤ l.length + ns.length) ∨
    (∃ q v τ' l', dueN (ks.map ownS) ns = some (q, v) ∧ forD (gN 3) l0_checked_owners (srcL (.ref m)) n i [some K, some (.ref m), some (.ref b), p3, p4] h = .exc (.own 1) [(1, v), (0, .str q)] τ' (h.set b (some (.dk (gD l')))))
  | [], hg, i, n, l, p3, p4, h, hd, hn, er, tl, e, hl => .inl ⟨rfl, p3, l, by rw [set_at e]; exact forD_nil er hd hn, tl, by simp⟩
  | v :: ns, hg, i, n, l, p3, p4, h, hd, hn, er, tl, e, hl => by
    simp only [List.length_cons] at hl hn
    have hn0 : 0 < n := by omega
    have g := hg v (by simp)
    have gk := good_name hk g
    have tv := g.1
    have pv := (gd_kd tv.1).pl
    have nv := (gd_kd tv.1).ne
    have ik := is_name_ok tv.1 h
    have eg : gN 3 (id v) [some K, some (.ref m), some (.ref b), p3, p4] = some [some K, some (.ref m), some (.ref b), some v, p4] := by simp
    cases hb : nameB v with
    | false =>
      rw [hb] at ik gk
      refine .inr ⟨"owner", v, [some K, some (.ref m), some (.ref b), some v, p4], l, ?_, ?_⟩
      · cases v with
        | str x =>
          have gk : false = decide (x ∈ ks.map ownS) := gk
          have : ¬ x ∈ ks.map ownS := of_decide_eq_false gk.symm
          rw [dueN, if_neg this]
        | _ => rfl
      · rw [set_at e]
        refine forD_exc er hd hn0 eg ?_
        simp [l0_checked_owners, ik, pv, nv]
    | true =>
      rw [hb] at ik gk
      obtain ⟨x, rfl⟩ : ∃ x, v = .str x := by cases v <;> first | exact ⟨_, rfl⟩ | (simp [inO] at gk; done)
      have gk : true = decide (x ∈ ks.map ownS) := gk
      have c1 : x ∈ ks.map ownS := of_decide_eq_true gk.symm
      obtain ⟨l2, e2, hm2, hl2, _⟩ := put_gD x (.bl true) l
      have sm : (gD l).length + 1 ≤ 16777216 := by unfold gD; rw [List.length_map]; omega
      have st := forD_nx (n := n) (τ2 := [some K, some (.ref m), some (.ref b), some (.str x), p4]) (h2 := h.set b (some (AO.dk (gD l2)))) (b := l0_checked_owners) er hd hn0 eg (by
        simp [l0_checked_owners, ik, e, e2, sm])
      have dd : dueN (ks.map ownS) (.str x :: ns) = dueN (ks.map ownS) ns := by rw [dueN, if_pos c1]
      rw [st, dd]
      have r2 : (h.set b (some (AO.dk (gD l2))))[m]? = some (some (.lst (all.map id))) := by rw [List.getElem?_set_ne (fun z => hbm z.symm)]; exact er
      rcases chkN_loop hbm ns (fun p hp => hg p (List.mem_cons_of_mem _ hp)) (i + 1) (n - 1) l2 (some (.str x)) p4 _ (src_at er hd).2 (by omega) r2 (fun p hp => by
        rcases hm2 p hp with hp | rfl
        · exact tl p hp
        · exact ⟨hb, rfl⟩) (at_set e) (by omega) with ⟨q, p3', l', ef, il', ll⟩ | ⟨q, w, τ', l', ed, ef⟩
      · exact .inl ⟨q, p3', l', by rw [ef, List.set_set], il', by simp only [List.length_cons]; omega⟩
      · exact .inr ⟨q, w, τ', l', ed, by rw [ef, List.set_set]⟩
theorem owner_of_ok {x : Str} (e : keyB x = true) (h : AH) : c_owner_of [.str x] h = .ok (.str (ownS x)) h := by
  have t := key_tx e
  have k1 := is_key_ok (v := .str x) t h
  have ke : isKeyB (.str x) = true := e
  rw [ke] at k1
  have hp := kPart_ok sl_sep sl_tx t h
  simp [c_owner_of, m_owner_of, b_owner_of, k1, hp, ownS]
theorem born_comp {d : Nat} {l : List (Str × AV)} {h : AH} {Nm : AV} (e : h[d]? = some (some (.dk (gD l)))) (il : IntL ks l) (ll : l.length ≤ 1000) : mLcK 0 [4] (gE 4) mYes (mL kTup (mCons (mCall c_owner_of (mCons (mVar 4) mNil)) (mCons (mC (.bl true)) mNil))) [some (.ref d), some Nm, none, none, none] h = .ok (.fl ((l.map fun p => (ownS p.1, AV.bl true)).map fun p => AV.tup [.str p.1, p.2])) h := by
  rw [mLcK_ev (kvs := gD l) rfl e]
  have ek : (gD l).map (fun p => keyV p.1) = (l.map (·.1)).map AV.str := by
    unfold gD
    rw [List.map_map, List.map_map]
    rfl
  rw [ek, lcL_map (fun v => match v with | .str k => .tup [.str (ownS k), .bl true] | _ => .non) ((l.map (·.1)).map AV.str) (fun v hv => ?_) (by simp; omega)]
  · simp only
    rw [List.set_set, set_at e]
    rw [List.map_map, List.map_map, List.map_map]
    rfl
  · obtain ⟨k, hk1, rfl⟩ := List.mem_map.mp hv
    obtain ⟨p, hp, rfl⟩ := List.mem_map.mp hk1
    have kk := hk _ (il p hp).1
    have oo := owner_of_ok hk kk (h.set d none)
    exact ⟨[some (.ref d), some Nm, none, none, some (.str p.1)], by simp [wipeA], by simp [oo]⟩
theorem chkN_ok {d m : Nat} {l : List (Str × AV)} {ns : List AV} {h : AH} (e : h[d]? = some (some (.dk (gD l)))) (il : IntL ks l) (ll : l.length ≤ 100) (em : h[m]? = some (some (.lst ns))) (gn : ∀ v, v ∈ ns → GoodN (ks.map ownS) v) (ln : ns.length < 100) :
    (dueN (ks.map ownS) ns = none ∧ ∃ (b : List (Str × AV)), c_checked_owners [.ref d, .ref m] h = .ok (.ref h.length) (h ++ [some (.dk (gD b))]) ∧ TruL b ∧ b.length ≤ l.length + ns.length) ∨
    (∃ q v h', dueN (ks.map ownS) ns = some (q, v) ∧ c_checked_owners [.ref d, .ref m] h = .exc (.own 1) [(1, v), (0, .str q)] h' ∧ Kp h h') := by
  have hm := at_lt em
  have sa : ∀ o o' : AO, (h ++ [some o]).set h.length (some o') = h ++ [some o'] := fun o o' => by simp
  have bc := born_comp hk (Nm := .ref m) e il (by omega)
  have tr : TruL (l.map fun p => (ownS p.1, AV.bl true)) := fun p hp => by
    obtain ⟨q, hq, rfl⟩ := List.mem_map.mp hp
    exact ⟨own_fit (hk _ (il q hq).1), rfl⟩
  obtain ⟨b, eb, tb, lb⟩ := merge_gD (l.map fun p => (ownS p.1, AV.bl true)) [] tr (fun p hp => by simp at hp)
  have e0 : sSet 2 (mL kDictR (mCons (mLcK 0 [4] (gE 4) mYes (mL kTup (mCons (mCall c_owner_of (mCons (mVar 4) mNil)) (mCons (mC (.bl true)) mNil)))) mNil)) [some (.ref d), some (.ref m), none, none, none] h = .nx [some (.ref d), some (.ref m), some (.ref h.length), none, none] (h ++ [some (AO.dk (gD b))]) := by
    have eb : mergeA [] (gD (l.map fun p => (ownS p.1, AV.bl true))) = gD b := eb
    have sm : small ((l.map fun p => (ownS p.1, AV.bl true)).map fun p => AV.tup [.str p.1, p.2]).length = true := decide_eq_true (by simp; omega)
    have mp := mapM_pair (l.map fun p => (ownS p.1, AV.bl true))
    have kd : kDictR [.fl ((l.map fun p => (ownS p.1, AV.bl true)).map fun p => AV.tup [.str p.1, p.2])] h = some (.ref h.length, h ++ [some (AO.dk (gD b))]) := by
      rw [kDictR_ev]
      unfold dctOf
      simp only [dctA, lstOf_fl, Option.bind_some]
      rw [if_pos sm, mp, Option.map_some, eb]
      rfl
    rw [sSet_ev, mL_ev, mCons_ev, bc, bind_ok, fCons_ev, mNil_ev, bind_ok, fCons2_ev, bind_ok, fL_ev, kd]
    rfl
  have em1 : (h ++ [some (AO.dk (gD b))])[m]? = some (some (.lst (ns.map id))) := by rw [List.getElem?_append_left hm, List.map_id]; exact em
  have is1 : mSrc srcL (mVar 1) [some (.ref d), some (.ref m), some (.ref h.length), none, none] (h ++ [some (AO.dk (gD b))]) = .ok (srcL (.ref m)) (h ++ [some (AO.dk (gD b))]) := by
    simp [mVar, em1]
  have st : c_checked_owners [.ref d, .ref m] h = (b_checked_owners [some (.ref d), some (.ref m), none, none, none] h).fin := rfl
  rw [st]
  unfold b_checked_owners
  rw [sSeq_ev, e0, thn_nx, sSeq_ev, sForD_ev, is1]
  simp only [bindS_ok, fForD_ev]
  rcases chkN_loop hk (K := .ref d) (b := h.length) (m := m) (by omega) ns gn 0 100 b none none (h ++ [some (AO.dk (gD b))]) rfl (by omega) em1 tb (by simp) (by simp at lb; omega) with ⟨q, p3', l', ef, il', ll'⟩ | ⟨q, v, τ', l', ed, ef⟩
  · rw [ef, thn_nx, sa]
    exact .inl ⟨q, l', by simp, il', by simp at lb; omega⟩
  · rw [ef, sa]
    exact .inr ⟨q, v, _, ed, rfl, Kp.app⟩
def stF (a b : Nat) : List (Nat × AV) := [((42 : Nat), .ref a), (43, .ref b)]
def stV (a b : Nat) : AV := .obj 13 (stF a b)
theorem init_ok {r m : Nat} {rs : List (AV × AV)} {ns : List AV} {h : AH} (er : h[r]? = some (some (.lst (rs.map pairV)))) (em : h[m]? = some (some (.lst ns))) (gr : ∀ p, p ∈ rs → GoodR ks p) (gn : ∀ v, v ∈ ns → GoodN (ks.map ownS) v) (lr : rs.length < 100) (ln : ns.length < 100) :
    (dueO ks rs ns = none ∧ ∃ (l b : List (Str × AV)), m_Store__init [.ref r, .ref m] h = .ok (stF h.length (h.length + 1)) (h ++ [some (.dk (gD l))] ++ [some (.dk (gD b))]) ∧ IntL ks l ∧ l.length ≤ rs.length ∧ TruL b ∧ b.length ≤ rs.length + ns.length) ∨
    (∃ q v h', dueO ks rs ns = some (q, v) ∧ m_Store__init [.ref r, .ref m] h = .exc (.own 1) [(1, v), (0, .str q)] h' ∧ Kp h h') := by
  have ii : kIsi kt [.ref r, .cls 12] h = some (.bl false, h) := by simp [kIsi, typA, clsA, kt, ktOf, ktF, ktG, ktT, er]
  rcases chkR_ok hk er gr lr with ⟨q, l, ef, il, ll⟩ | ⟨q, v, h', ed, ef, kp⟩
  · have em1 : (h ++ [some (AO.dk (gD l))])[m]? = some (some (.lst ns)) := by rw [List.getElem?_append_left (at_lt em)]; exact em
    rcases chkN_ok hk (d := h.length) (h := h ++ [some (AO.dk (gD l))]) (by simp) il (by omega) em1 gn ln with ⟨q2, b, ef2, tb, lb⟩ | ⟨q2, v, h', ed, ef2, kp⟩
    · refine .inl ⟨by simp [dueO, q, q2], l, b, ?_, il, ll, tb, by omega⟩
      rw [show (h ++ [some (AO.dk (gD l))]).length = h.length + 1 from by simp] at ef2
      simp [m_Store__init, b_Store__init, runI, ii, ef, ef2, stF]
    · refine .inr ⟨q2, v, h', by simp [dueO, q, ed], ?_, Kp.app.trans kp⟩
      simp [m_Store__init, b_Store__init, runI, ii, ef, ef2]
  · refine .inr ⟨q, v, h', by simp [dueO, ed], ?_, kp⟩
    simp [m_Store__init, b_Store__init, runI, ii, ef]
theorem told_ok {r m : Nat} {rs : List (AV × AV)} {ns : List AV} {h : AH} (er : h[r]? = some (some (.lst (rs.map pairV)))) (em : h[m]? = some (some (.lst ns))) (gr : ∀ p, p ∈ rs → GoodR ks p) (gn : ∀ v, v ∈ ns → GoodN (ks.map ownS) v) (lr : rs.length < 100) (ln : ns.length < 100) :
    ∃ h', c_told [.ref r, .ref m] h = .ok (dueA (dueO ks rs ns)) h' ∧ Kp h h' := by
  have hm1 : mt1 (.own 1) = some true := rfl
  rcases init_ok hk er em gr gn lr ln with ⟨q, l, b, ef, _, _, _, _⟩ | ⟨q, v, h', ed, ef, kp⟩
  · refine ⟨h ++ [some (.dk (gD l))] ++ [some (.dk (gD b))], ?_, Kp.app.trans Kp.app⟩
    rw [q]
    simp [c_told, m_told, b_told, pickL, ef, dueA]
  · refine ⟨h', ?_, kp⟩
    have t := (dueO_thg gr gn ed).1.1
    have pv := (gd_kd t).pl
    have nv := (gd_kd t).ne
    rw [ed]
    simp [c_told, m_told, b_told, pickL, ef, hm1, dueA, pv, nv]
end
end Wk11
namespace Wk11
open PySem PySem.Spec PyProof.Rows L2 PI
structure StAt (h : AH) (ks : List Str) (a b : Nat) (l bo : List (Str × AV)) : Prop where
  ne : a ≠ b
  ha : h[a]? = some (some (.dk (gD l)))
  hb : h[b]? = some (some (.dk (gD bo)))
  il : IntL ks l
  tb : TruL bo
  ll : l.length < 60
  lb : bo.length < 60
theorem val_mem {x : Str} {v : AV} : ∀ {l : List (Str × AV)}, valA (gD l) (.inr x) = some v → (x, v) ∈ l
  | [], e => by simp [gD, valA] at e
  | p :: l, e => by
    unfold gD valA at e
    rw [List.map_cons, List.find?_cons] at e
    by_cases a : p.1 = x
    · rw [show decide ((Sum.inr p.1 : Key) = .inr x) = true from decide_eq_true (by rw [a])] at e
      simp at e
      rw [← a, ← e]
      simp
    · rw [show decide ((Sum.inr p.1 : Key) = .inr x) = false from decide_eq_false (fun z => a (Sum.inr.inj z))] at e
      exact List.mem_cons_of_mem _ (val_mem (l := l) e)
theorem val_int {ks : List Str} {l : List (Str × AV)} (il : IntL ks l) {x : Str} (hx : x ∈ l.map (·.1)) : ∃ i : Int, valA (gD l) (.inr x) = some (.int i) := by
  have h := val_gD x l
  rw [decide_eq_true hx] at h
  obtain ⟨v, hv⟩ := Option.isSome_iff_exists.mp h
  obtain ⟨i, e⟩ := (il _ (val_mem hv)).2
  exact ⟨i, by rw [hv]; exact congrArg some e⟩
def getI (l : List (Str × AV)) (x : Str) : Int := match valA (gD l) (.inr x) with
  | some (.int i) => i
  | _ => 0
theorem getI_ok {ks : List Str} {l : List (Str × AV)} (il : IntL ks l) {x : Str} (hx : x ∈ l.map (·.1)) : valA (gD l) (.inr x) = some (.int (getI l x)) := by
  obtain ⟨i, e⟩ := val_int il hx
  unfold getI
  rw [e]
def rowsO (l : List (Str × AV)) : AV := .fl ((sortA (l.map (·.1))).map fun k => .tup [.str k, .int (getI l k)])
def ownsO (bo : List (Str × AV)) : AV := .fl ((sortA (bo.map (·.1))).map .str)
theorem keys_gD (l : List (Str × AV)) : (gD l).map (fun p => keyV p.1) = (l.map (·.1)).map AV.str := by
  unfold gD
  rw [List.map_map, List.map_map]
  rfl
section
variable {h : AH} {ks : List Str} {a b : Nat} {l bo : List (Str × AV)}
theorem fo_st (h : AH) : fldsOf (stV a b) h = some (13, [((42 : Nat), .ref a), (43, .ref b)]) := rfl
theorem pl_st : plainV (stV a b) = true := rfl
theorem ne_st : notE (stV a b) = true := rfl
theorem sorted_ok {n : Nat} {l : List (Str × AV)} {h : AH} (e : h[n]? = some (some (.dk (gD l)))) (hl : l.length < 60) : kListDF [.ref n] h = some (.fl ((l.map (·.1)).map AV.str), h) ∧ kSortF [.fl ((l.map (·.1)).map AV.str)] h = some (.fl ((sortA (l.map (·.1))).map .str), h) := by
  constructor
  · rw [kListDF_ev]
    simp only [dctA, e, Option.bind_some]
    rw [if_pos (show small (gD l).length = true from decide_eq_true (by unfold gD; rw [List.length_map]; omega)), keys_gD]
  · rw [kSortF_ev, sortO_of (ss := l.map (·.1)) (by simp [seqD, dctA]) (by rw [List.length_map]; omega)]
    rfl
theorem all_rows_ok (S : StAt h ks a b l bo) : c_Store_all_rows [stV a b] h = .ok (rowsO l) h := by
  obtain ⟨s1, s2⟩ := sorted_ok S.ha S.ll
  have st : c_Store_all_rows [stV a b] h = (b_Store_all_rows [some (stV a b), none] h).fin := rfl
  have f1 : ∀ (p : Option AV) (h : AH), mFld [12, 13] 42 (mVar 0) [some (stV a b), p] h = .ok (.ref a) h := fun _ _ => rfl
  rw [st]
  unfold b_Store_all_rows
  have e1 : (mIt itL (mL kSortF (mCons (mL kListDF (mCons (mFld [12, 13] 42 (mVar 0)) mNil)) mNil))) [some (stV a b), none] h = .ok ((sortA (l.map (·.1))).map .str) h := by
    rw [show (mIt itL (mL kSortF (mCons (mL kListDF (mCons (mFld [12, 13] 42 (mVar 0)) mNil)) mNil))) [some (stV a b), none] h = (((mL kSortF (mCons (mL kListDF (mCons (mFld [12, 13] 42 (mVar 0)) mNil)) mNil)) [some (stV a b), none] h).bind fun v h => match itL v h with | some vs => .ok vs h | none => .stuck) from rfl]
    rw [mL_ev, mCons_ev, mL_ev, mCons_ev, f1]
    simp only [bind_ok, fCons_ev, mNil_ev, fCons2_ev, fL_ev, s1, of_some, s2]
    rfl
  rw [sRet_ev, mLc_ev, e1]
  simp only [bind_ok, fLc_ev]
  rw [lcL_map (fun v => match v with | .str k => .tup [.str k, .int (getI l k)] | _ => .non) ((sortA (l.map (·.1))).map .str) (fun v hv => ?_) (by rw [List.length_map, sortA_len, List.length_map]; have := S.ll; omega)]
  · simp [rowsO]
  · obtain ⟨k, hk, rfl⟩ := List.mem_map.mp hv
    have hk := sortA_mem.mp hk
    have g := getI_ok S.il hk
    have ha := S.ha
    refine ⟨[some (stV a b), some (.str k)], by simp [wipeA], ?_⟩
    rw [mL_ev, mCons_ev, show mVar 1 [some (stV a b), some (.str k)] h = .ok (.str k) h from rfl]
    simp only [bind_ok, fCons_ev]
    rw [mCons_ev, mBin_ev, f1]
    simp only [bind_ok, fBin_ev]
    rw [show mVar 1 [some (stV a b), some (.str k)] h = .ok (.str k) h from rfl]
    simp [ha, g]
theorem all_owners_ok (S : StAt h ks a b l bo) : c_Store_all_owners [stV a b] h = .ok (ownsO bo) h := by
  obtain ⟨s1, s2⟩ := sorted_ok S.hb S.lb
  have st : c_Store_all_owners [stV a b] h = (b_Store_all_owners [some (stV a b)] h).fin := rfl
  have f1 : ∀ (h : AH), mFld [12, 13] 43 (mVar 0) [some (stV a b)] h = .ok (.ref b) h := fun _ => rfl
  rw [st]
  unfold b_Store_all_owners
  rw [sRet_ev, mL_ev, mCons_ev, mL_ev, mCons_ev, f1]
  simp only [bind_ok, fCons_ev, mNil_ev, fCons2_ev, fL_ev, s1, of_some, s2]
  rfl
theorem eqvAll_rows : ∀ ps : List (Str × Int), PyData.eqvAll (ps.map fun p => .tuple [.str p.1, .int p.2]) (ps.map fun p => .tuple [.str p.1, .int p.2]) = true
  | [] => by simp [PyData.eqvAll]
  | p :: ps => by simp [PyData.eqvAll, PyData.eqv, eqvAll_rows ps]
theorem mapM_rows {h : AH} {n : Nat} : ∀ ps : List (Str × Int), (ps.map fun p => AV.tup [.str p.1, .int p.2]).mapM (datH h (n + 1)) = some (ps.map fun p => .tuple [.str p.1, .int p.2])
  | [] => rfl
  | p :: ps => by
    have : datH h (n + 1) (.tup [.str p.1, .int p.2]) = some (.tuple [.str p.1, .int p.2]) := by rw [datH]; cases n <;> rfl
    rw [List.map_cons, List.mapM_cons, this, mapM_rows ps]
    rfl
theorem kept_self (l bo : List (Str × AV)) (h : AH) : kNeH (.fl [rowsO l, ownsO bo]) (.fl [rowsO l, ownsO bo]) h = some (.bl false, h) := by
  have e1 : datH h 11 (rowsO l) = some (.list ((sortA (l.map (·.1))).map fun k => .tuple [.str k, .int (getI l k)])) := by
    unfold rowsO
    rw [datH]
    have := mapM_rows (h := h) (n := 9) ((sortA (l.map (·.1))).map fun k => (k, getI l k))
    rw [List.map_map, List.map_map] at this
    rw [show (fun k => AV.tup [.str k, .int (getI l k)]) = (fun p : Str × Int => AV.tup [.str p.1, .int p.2]) ∘ (fun k => (k, getI l k)) from rfl, this]
    rfl
  have e2 : datH h 11 (ownsO bo) = some (.list ((sortA (bo.map (·.1))).map .str)) := by
    unfold ownsO
    rw [datH, mapM_strs (fun _ => rfl)]
    rfl
  have e3 : datH h 12 (.fl [rowsO l, ownsO bo]) = some (.list [.list ((sortA (l.map (·.1))).map fun k => .tuple [.str k, .int (getI l k)]), .list ((sortA (bo.map (·.1))).map .str)]) := by
    rw [datH]
    simp [List.mapM_cons, e1, e2]
  rw [kNeH_of e3 e3]
  have q := eqvAll_rows ((sortA (l.map (·.1))).map fun k => (k, getI l k))
  rw [List.map_map] at q
  have q : PyData.eqvAll ((sortA (l.map (·.1))).map fun k => .tuple [.str k, .int (getI l k)]) ((sortA (l.map (·.1))).map fun k => .tuple [.str k, .int (getI l k)]) = true := q
  simp only [PyData.eqv, PyData.eqvAll, q, eqvAll_strs]
  simp
theorem key_noname {x : Str} (e : keyB x = true) : nameB (.str x) = false := by
  obtain ⟨o, m, ho, hm, rfl⟩ := key_ex e
  cases q : nameB (.str (kyS o m)) with
  | false => rfl
  | true =>
    have q : fitB (kyS o m) = true := q
    have := fit_free q (k := 47) (.inl (by omega))
    refine absurd ?_ this
    unfold kyS
    rw [TL.tl_append, TL.tl_append, sl_sep.tl]
    simp
/-! deeds that are refused -/
variable {v : AV} (gv : gdB v = true)
include gv
theorem set_key (bad : isKeyB v = false) (w : AV) (hw : Kd w) (h : AH) : c_set [stV a b, v, w] h = .ok (.fl [.str "key", v]) h := by
  have hm1 : mt1 (.own 1) = some true := rfl
  have ik := is_key_ok gv h
  rw [bad] at ik
  have pv := (gd_kd gv).pl
  have nv := (gd_kd gv).ne
  have pw := hw.pl
  have fo := fo_st (a := a) (b := b) h
  have em : m_Store__setitem [stV a b, v, w] h = .exc (.own 1) [(1, v), (0, .str "key")] h := by
    simp [m_Store__setitem, b_Store__setitem, ik, pv, nv]
  simp [c_set, m_set, b_set, pl_st, ne_st, pv, pw, fo, em, hm1, nv, hw.ne]
theorem set_value (good : isKeyB v = true) (w : AV) (hw : Kd w) (bad : intB w = false) (h : AH) : c_set [stV a b, v, w] h = .ok (.fl [.str "value", w]) h := by
  have hm1 : mt1 (.own 1) = some true := rfl
  have ik := is_key_ok gv h
  rw [good] at ik
  have iv := is_integer_ok hw h
  rw [bad] at iv
  have pv := (gd_kd gv).pl
  have nv := (gd_kd gv).ne
  have pw := hw.pl
  have nw := hw.ne
  have fo := fo_st (a := a) (b := b) h
  have em : m_Store__setitem [stV a b, v, w] h = .exc (.own 1) [(1, w), (0, .str "value")] h := by
    simp [m_Store__setitem, b_Store__setitem, ik, pv, nv, iv, pw, nw]
  simp [c_set, m_set, b_set, pl_st, ne_st, pv, pw, fo, em, hm1, nv, nw]
theorem in_no (bad : isKeyB v = false) (h : AH) : kOwnIn 13 false (chk 2 m_Store__contains) v (stV a b) h = some (.bl false, h) ∧ c_Store_row [stV a b, v] h = .ok (.tup []) h := by
  have ik := is_key_ok gv h
  rw [bad] at ik
  have pv := (gd_kd gv).pl
  have fo := fo_st (a := a) (b := b) h
  constructor
  · unfold kOwnIn
    rw [fo]
    have : chk 2 m_Store__contains [stV a b, v] h = .ok (.bl false) h := by
      simp [m_Store__contains, b_Store__contains, ik, pv]
    simp only [if_true, this, bOf]
    rfl
  · simp [c_Store_row, m_Store_row, b_Store_row, ik, pv]
theorem own_no (bad : nameB v = false) (h : AH) : c_Store_has_owner [stV a b, v] h = .ok (.bl false) h := by
  have ik := is_name_ok gv h
  rw [bad] at ik
  have pv := (gd_kd gv).pl
  simp [c_Store_has_owner, m_Store_has_owner, b_Store_has_owner, ik, pv]
theorem gone_no (bad : isKeyB v = false) (bad2 : nameB v = false) (h : AH) : c_gone [stV a b, v, .int 0] h = .ok (.fl [.str "missing", v]) h ∧ c_gone [stV a b, v, .int 1] h = .ok (.fl [.str "missing", v]) h ∧ c_gone [stV a b, v, .int 2] h = .ok (.fl [.str "owner", v]) h := by
  have hm1 : mt1 (.own 1) = some true := rfl
  have hm3 : mt3 (.own 3) = some true := rfl
  have hm4 : mt3 (.own 1) = some false := rfl
  have ik := is_key_ok gv h
  rw [bad] at ik
  have iN := is_name_ok gv h
  rw [bad2] at iN
  have pv := (gd_kd gv).pl
  have nv := (gd_kd gv).ne
  have fo := fo_st (a := a) (b := b) h
  have e0 : m_Store__getitem [stV a b, v] h = .exc (.own 3) [(4, v)] h := by
    simp [m_Store__getitem, b_Store__getitem, ik, pv, nv]
  have e1 : c_Store_drop [stV a b, v] h = .exc (.own 3) [(4, v)] h := by
    simp [c_Store_drop, m_Store_drop, b_Store_drop, ik, pv, nv]
  have e2 : c_Store_bear [stV a b, v] h = .exc (.own 1) [(1, v), (0, .str "owner")] h := by
    simp [c_Store_bear, m_Store_bear, b_Store_bear, iN, pv, nv]
  have q00 : kEqH (.int 0) (.int 0) h = some (.bl true, h) := rfl
  have q10 : kEqH (.int 1) (.int 0) h = some (.bl false, h) := rfl
  have q11 : kEqH (.int 1) (.int 1) h = some (.bl true, h) := rfl
  have q20 : kEqH (.int 2) (.int 0) h = some (.bl false, h) := rfl
  have q21 : kEqH (.int 2) (.int 1) h = some (.bl false, h) := rfl
  refine ⟨?_, ?_, ?_⟩
  · simp [c_gone, m_gone, b_gone, pl_st, ne_st, pv, nv, fo, e0, hm3, q00]
  · simp [c_gone, m_gone, b_gone, pl_st, ne_st, pv, nv, fo, e1, hm3, q10, q11]
  · simp [c_gone, m_gone, b_gone, pl_st, ne_st, pv, nv, fo, e2, hm4, hm1, q20, q21]
end
end Wk11
namespace Wk11
open PySem PySem.Spec PyProof.Rows L2 PI
def numL : List AV := [.int (10 ^ 30), .int (-(10 ^ 30)), .non, .bl true, .str "1", .tup [.int 1]]
theorem num_fin : numL.all (fun w => (knd w).isSome && !intB w && selfB (.fl [.str "value", w])) = true := by decide +kernel
theorem num_ok {w : AV} (h : w ∈ numL) : Kd w ∧ intB w = false ∧ selfB (.fl [.str "value", w]) = true := by
  have := List.all_eq_true.mp num_fin w h
  simp only [Bool.and_eq_true, Bool.not_eq_true'] at this
  exact ⟨Option.isSome_iff_exists.mp this.1.1, this.1.2, this.2⟩
theorem StAt.mono {h h' : AH} {ks : List Str} {a b : Nat} {l bo : List (Str × AV)} (S : StAt h ks a b l bo) (ea : h'[a]? = h[a]?) (eb : h'[b]? = h[b]?) : StAt h' ks a b l bo := ⟨S.ne, ea.trans S.ha, eb.trans S.hb, S.il, S.tb, S.ll, S.lb⟩
section
variable {ks : List Str} (hk : ∀ k, k ∈ ks → keyB k = true)
include hk
theorem set_good {h : AH} {a b : Nat} {l bo : List (Str × AV)} (S : StAt h ks a b l bo) {x : Str} (hx : x ∈ ks) {i : Int} (hi : -GR ≤ i ∧ i ≤ GR) : ∃ h', c_set [stV a b, .str x, .int i] h = .ok .non h' ∧ m_Store__getitem [stV a b, .str x] h' = .ok (.int i) h' := by
  have kx := hk x hx
  have tx := key_tx kx
  have ik := fun h => is_key_ok (v := .str x) tx h
  have ke : isKeyB (.str x) = true := kx
  rw [ke] at ik
  have iv := is_integer_ok (v := .int i) ⟨_, rfl⟩ h
  rw [show intB (.int i) = true from decide_eq_true hi] at iv
  obtain ⟨l', e1, _, _, v1⟩ := put_gD x (.int i) l
  obtain ⟨b', e2, _, _, _⟩ := put_gD (ownS x) (.bl true) bo
  have s1 : (gD l).length + 1 ≤ 16777216 := by unfold gD; rw [List.length_map]; have := S.ll; omega
  have s2 : (gD bo).length + 1 ≤ 16777216 := by unfold gD; rw [List.length_map]; have := S.lb; omega
  obtain ⟨h1, hh1⟩ : ∃ h1, h1 = h.set a (some (AO.dk (gD l'))) := ⟨_, rfl⟩
  have hb1 : h1[b]? = some (some (.dk (gD bo))) := by rw [hh1, List.getElem?_set_ne S.ne]; exact S.hb
  have ha1 : h1[a]? = some (some (.dk (gD l'))) := by rw [hh1]; exact at_set S.ha
  obtain ⟨h2, hh2⟩ : ∃ h2, h2 = h1.set b (some (AO.dk (gD b'))) := ⟨_, rfl⟩
  have ha2 : h2[a]? = some (some (.dk (gD l'))) := by rw [hh2, List.getElem?_set_ne (fun z => S.ne z.symm)]; exact ha1
  have oo := owner_of_ok hk kx h1
  have ha := S.ha
  have em : m_Store__setitem [stV a b, .str x, .int i] h = .ok .non h2 := by
    simp [m_Store__setitem, b_Store__setitem, ik, iv, fo_st, pl_st, ha, e1, s1, ← hh1, oo, hb1, e2, s2, ← hh2]
  refine ⟨h2, ?_, ?_⟩
  · simp [c_set, m_set, b_set, pl_st, ne_st, fo_st, em]
  · simp [m_Store__getitem, b_Store__getitem, ik, fo_st, pl_st, ha2, v1]
theorem in_use_ok {h : AH} {n a b : Nat} {l bo : List (Str × AV)} (B : BagAt h n) (S : StAt h ks a b l bo) (na : a ≠ n) (nb : b ≠ n) {k0 : Str} (e0 : (ks.map AV.str)[0]? = some (.str k0)) (h0 : k0 ∈ ks) : ∃ h', c_in_use [.ref n, stV a b, .fl (ks.map .str), .fl [rowsO l, ownsO bo]] h = .ok (.bl true) h' := by
  obtain ⟨v, h1, e1, m1, D1⟩ := odd_ok B
  obtain ⟨w, h2, e2, m2, D2⟩ := of_ok (xs := numL) D1.1 (by simp [numL]) (by simp [numL])
  have e2' : c_of [.ref n, .fl [.int 1000000000000000000000000000000, .int (-1000000000000000000000000000000), .non, .bl true, .str "1", .tup [.int 1]]] h1 = .ok w h2 := e2
  have S2 : StAt h2 ks a b l bo := S.mono ((D2.2.2 a na).trans (D1.2.2 a na)) ((D2.2.2 b nb).trans (D1.2.2 b nb))
  obtain ⟨tv, kb, nbv⟩ := oddX_ok (v := v) (by unfold oddX; exact List.mem_append_left _ m1)
  obtain ⟨kw, iw, sw⟩ := num_ok m2
  have k0k := hk k0 h0
  have k0t : gdB (.str k0) = true := key_tx k0k
  have pv := (gd_kd tv.1).pl
  have pw := kw.pl
  have t1 := set_key (a := a) (b := b) tv.1 kb w kw h2
  have t2 := set_value (a := a) (b := b) k0t k0k w kw iw h2
  have n1 := neH_self (tv.2.2 "key" (by decide)) h2
  have n2 := neH_self sw h2
  obtain ⟨t3, t4⟩ := in_no (a := a) (b := b) tv.1 kb h2
  have t5 := own_no (a := a) (b := b) tv.1 nbv h2
  have t6 := own_no (a := a) (b := b) k0t (key_noname k0k) h2
  obtain ⟨t7, t8, t9⟩ := gone_no (a := a) (b := b) tv.1 kb nbv h2
  have n3 := neH_self (tv.2.2 "missing" (by decide)) h2
  have n4 := neH_self (tv.2.2 "owner" (by decide)) h2
  have r1 := all_rows_ok S2
  have r2 := all_owners_ok S2
  have n5 := kept_self l bo h2
  obtain ⟨h3, t10, t11⟩ := set_good hk S2 h0 (i := 999999999999999999999999999999) (by unfold GR; omega)
  have x0 : ∀ h, kIx (.fl (ks.map .str)) (.int 0) h = some (.str k0, h) := fun h => by
    have hl : 0 < (ks.map AV.str).length := (List.getElem?_eq_some_iff.mp e0).1
    rw [kIx_fl, atI_ev, ixN_ev, if_pos (by omega), if_pos (by omega)]
    simpa using e0
  have z1 : kNeH (.tup []) (.tup []) h2 = some (.bl false, h2) := rfl
  have z2 : kIsB true (.bl false) (.bl false) h2 = some (.bl false, h2) := rfl
  have z3 : kNotN .non .non h3 = some (.bl false, h3) := rfl
  have z4 : kNeH (.int 999999999999999999999999999999) (.int 999999999999999999999999999999) h3 = some (.bl false, h3) := rfl
  refine ⟨h3, ?_⟩
  generalize ks.map AV.str = K at *
  generalize rowsO l = R at *
  generalize ownsO bo = O at *
  have pR : plainV (.fl [R, O]) = true := rfl
  simp [c_in_use, m_in_use, b_in_use, e1, e2', pl_st, fo_st, pv, pw, t1, n1, x0, t2, n2, t3, t4, z1, t5, z2, t6, t7, t8, t9, n3, n4, r1, r2, n5, t10, z3, t11, z4, pR]
end
end Wk11
namespace Wk11
open PySem PySem.Spec PyProof.Rows L2 PI
structure Tn (h : AH) (ks : List Str) (r m : Nat) (rs : List (AV × AV)) (ns : List AV) : Prop where
  er : h[r]? = some (some (.lst (rs.map pairV)))
  em : h[m]? = some (some (.lst ns))
  gr : ∀ p, p ∈ rs → GoodR ks p
  gn : ∀ v, v ∈ ns → GoodN (ks.map ownS) v
  lr : rs.length ≤ 20
  ln : ns.length ≤ 20
structure Ad (n r m a b : Nat) : Prop where
  h : n < r ∧ r < m ∧ m < a ∧ a < b
theorem thg_dat {v : AV} (t : Thg v) (h : AH) (n : Nat) : ∃ d, datH h (n + 2) v = some d := by
  rcases t.2.1 with ⟨x, rfl⟩ | ⟨d, e, _⟩
  · exact ⟨_, rfl⟩
  · exact ⟨d, e h n⟩
theorem mapM_ex {f : AV → Option PyData} : ∀ {xs : List AV}, (∀ x, x ∈ xs → ∃ d, f x = some d) → ∃ ds, xs.mapM f = some ds ∧ ds.length = xs.length
  | [], _ => ⟨[], rfl, rfl⟩
  | x :: xs, H => by
    obtain ⟨d, e⟩ := H x (by simp)
    obtain ⟨ds, es, l⟩ := mapM_ex (xs := xs) fun y hy => H y (List.mem_cons_of_mem _ hy)
    exact ⟨d :: ds, by rw [List.mapM_cons, e, es]; rfl, by simp [l]⟩
theorem ne_nil {m : Nat} {xs : List AV} {h : AH} (e : h[m]? = some (some (.lst xs))) (H : ∀ x, x ∈ xs → ∃ d, datH h 11 x = some d) : kNeH (.ref m) (.fl []) h = some (.bl (!xs.isEmpty), h) := by
  obtain ⟨ds, es, l⟩ := mapM_ex H
  have e1 : datH h 12 (.ref m) = some (.list ds) := datH_lst (v := .ref m) (by simp [lstOf, e]) es
  have e2 : datH h 12 (.fl []) = some (.list []) := rfl
  rw [kNeH_of e1 e2]
  have : PyData.eqv (.list ds) (.list []) = xs.isEmpty := by
    cases ds with
    | nil =>
      have : xs = [] := List.length_eq_zero_iff.mp l.symm
      subst this
      rfl
    | cons d ds =>
      cases xs with
      | nil => simp at l
      | cons x xs => rfl
  rw [this]
section
variable {ks : List Str} (hk : ∀ k, k ∈ ks → keyB k = true)
include hk
theorem q4_ok {n r m a b : Nat} (A : Ad n r m a b) {l bo : List (Str × AV)} {rs : List (AV × AV)} {ns : List AV} {h : AH} (B : BagAt h n) (S : StAt h ks a b l bo) (T : Tn h ks r m rs ns) (lk : ks.length ≤ 1000) (τ : AS) (e2 : τ[3]? = some (some (.fl (ks.map .str)))) (e7 : τ[7]? = some (some (.ref r))) (e8 : τ[8]? = some (some (.ref m))) :
    ∃ h', q4_law τ h = .nx τ h' ∧ BagAt h' n ∧ StAt h' ks a b l bo ∧ Tn h' ks r m rs ns := by
  obtain ⟨h1, t1, k1⟩ := told_ok hk T.er T.em T.gr T.gn (by have := T.lr; omega) (by have := T.ln; omega)
  have T1 : Tn h1 ks r m rs ns := ⟨k1.at T.er, k1.at T.em, T.gr, T.gn, T.lr, T.ln⟩
  obtain ⟨h2, t2, k2⟩ := due_ok hk T1.er T1.em T.gr T.gn (by have := T.lr; omega) (by have := T.ln; omega) lk
  have nn := dueA_self T.gr T.gn h2
  have k := k1.trans k2
  refine ⟨h2, ?_, bag_fr B (k.keep n (bag_lt B)), S.mono (k.keep a (at_lt S.ha)) (k.keep b (at_lt S.hb)), ⟨k.at T.er, k.at T.em, T.gr, T.gn, T.lr, T.ln⟩⟩
  generalize ks.map AV.str = K at *
  simp [q4_law, e2, e7, e8, t1, t2, nn]
theorem turn_ok {n r m a b : Nat} (A : Ad n r m a b) {l bo : List (Str × AV)} {rs : List (AV × AV)} {ns : List AV} {h : AH} (B : BagAt h n) (S : StAt h ks a b l bo) (T : Tn h ks r m rs ns) (lk : ks.length ≤ 1000) {k0 : Str} (e0 : (ks.map AV.str)[0]? = some (.str k0)) (h0 : k0 ∈ ks) (p0 p1 p4 p5 p6 p9 p10 p11 p12 p13 p14 : Option AV) :
    ∃ rs' ns' q9 q10 q11 q12 q13 q14 h', l0_law [p0, p1, some (.ref n), some (.fl (ks.map .str)), p4, p5, p6, some (.ref r), some (.ref m), p9, p10, p11, p12, p13, p14] h = .nx [p0, p1, some (.ref n), some (.fl (ks.map .str)), p4, p5, p6, some (.ref r), some (.ref m), q9, q10, q11, q12, q13, q14] h' ∧ BagAt h' n ∧ StAt h' ks a b l bo ∧ Tn h' ks r m rs' ns' := by
  obtain ⟨a1, a2, a3, a4⟩ := A.h
  have drew : ∀ {h h' : AH} {rs ns}, Drew n h h' → StAt h ks a b l bo → Tn h ks r m rs ns → StAt h' ks a b l bo ∧ Tn h' ks r m rs ns := fun {h h' rs ns} D S T => ⟨S.mono (D.2.2 a (by omega)) (D.2.2 b (by omega)), ⟨(D.2.2 r (by omega)).trans T.er, (D.2.2 m (by omega)).trans T.em, T.gr, T.gn, T.lr, T.ln⟩⟩
  obtain ⟨d, h1, e1, d0, d1, D1⟩ := take_ok (k := 2) B (by omega) (by omega)
  obtain ⟨v, h2, e2, m2, D2⟩ := odd_ok D1.1
  obtain ⟨u, h3, e3, m3, D3⟩ := of_ok (xs := [v, .int (10 ^ 30), .int (-(10 ^ 30)), .str "1"]) D2.1 (by simp) (by simp)
  have e3' : c_of [.ref n, .fl [v, .int 1000000000000000000000000000000, .int (-1000000000000000000000000000000), .str "1"]] h2 = .ok u h3 := e3
  obtain ⟨S1, T1⟩ := drew ((D1.trans D2).trans D3) S T
  have hu : u ∈ oddX := by
    unfold oddX
    simp only [List.mem_cons, List.not_mem_nil, or_false] at m3
    rcases m3 with rfl | rfl | rfl | rfl
    · exact List.mem_append_left _ m2
    · simp
    · simp
    · simp
  obtain ⟨tu, ku, nu⟩ := oddX_ok hu
  have pu := (gd_kd tu.1).pl
  have x0 : ∀ h, kIx (.fl (ks.map .str)) (.int 0) h = some (.str k0, h) := fun h => by
    have hl : 0 < (ks.map AV.str).length := (List.getElem?_eq_some_iff.mp e0).1
    rw [kIx_fl, atI_ev, ixN_ev, if_pos (by omega), if_pos (by omega)]
    simpa using e0
  have c1 : (sPar 9 10 (mCons (mCall c_take (mCons (mVar 2) (mCons (mC (.int 2)) mNil))) (mCons (mCall c_of (mCons (mVar 2) (mCons (mL kFl (mCons (mCall c_odd (mCons (mVar 2) mNil)) (mCons (mBin kPow (mC (.int 10)) (mC (.int 30))) (mCons (mUn kNeg (mBin kPow (mC (.int 10)) (mC (.int 30)))) (mCons (mC (.str "1")) mNil))))) mNil))) mNil))) [p0, p1, some (.ref n), some (.fl (ks.map .str)), p4, p5, p6, some (.ref r), some (.ref m), p9, p10, p11, p12, p13, p14] h = .nx [p0, p1, some (.ref n), some (.fl (ks.map .str)), p4, p5, p6, some (.ref r), some (.ref m), some (.int d), some u, p11, p12, p13, p14] h3 := by
    generalize ks.map AV.str = K at *
    simp [e1, e2, e3']
  unfold l0_law
  rw [sSeq_ev, c1, thn_nx]
  unfold q5_law
  rw [sSeq_ev]
  have dr : ∀ p, p ∈ rs → ∃ d, datH h3 11 (pairV p) = some d := fun p hp => by
    obtain ⟨t1, t2, _⟩ := T.gr p hp
    obtain ⟨x, ex⟩ := thg_dat t1 h3 8
    obtain ⟨y, ey⟩ := thg_dat t2 h3 8
    exact ⟨.tuple [x, y], by unfold pairV; rw [datH]; simp [List.mapM_cons, ex, ey]⟩
  have nr := ne_nil T1.er (fun x hx => by
    obtain ⟨p, hp, rfl⟩ := List.mem_map.mp hx
    exact dr p hp)
  have nm := ne_nil T1.em (fun x hx => thg_dat (T.gn x hx).1 h3 9)
  have fin : ∀ {rs' ns' h4} (q11 q12 q13 q14 : Option AV), BagAt h4 n → StAt h4 ks a b l bo → Tn h4 ks r m rs' ns' → ∃ rs' ns' q9 q10 q11' q12' q13' q14' h', (SRes.nx [p0, p1, some (.ref n), some (.fl (ks.map .str)), p4, p5, p6, some (.ref r), some (.ref m), some (.int d), some u, q11, q12, q13, q14] h4).thn q4_law = .nx [p0, p1, some (.ref n), some (.fl (ks.map .str)), p4, p5, p6, some (.ref r), some (.ref m), q9, q10, q11', q12', q13', q14'] h' ∧ BagAt h' n ∧ StAt h' ks a b l bo ∧ Tn h' ks r m rs' ns' := fun {rs' ns' h4} q11 q12 q13 q14 B4 S4 T4 => by
    obtain ⟨h', e, B', S', T'⟩ := q4_ok hk A B4 S4 T4 lk [p0, p1, some (.ref n), some (.fl (ks.map .str)), p4, p5, p6, some (.ref r), some (.ref m), some (.int d), some u, q11, q12, q13, q14] rfl rfl rfl
    exact ⟨rs', ns', some (.int d), some u, q11, q12, q13, q14, h', by rw [thn_nx]; exact e, B', S', T'⟩
  have nam : ¬ (rs ≠ [] ∧ d = 0) → (sIf (mTAnd (mB (mBin kNeH (mVar 7) (mL kFl mNil))) (mB (mBin kEqH (mVar 9) (mC (.int 0))))) (sSeq (sSet 11 (mCall c_take (mCons (mVar 2) (mCons (mL kLen (mCons (mVar 7) mNil)) mNil)))) q3_law) (sIf (mB (mBin kNeH (mVar 8) (mL kFl mNil))) (sSetIx (mVar 8) (mCall c_take (mCons (mVar 2) (mCons (mL kLen (mCons (mVar 8) mNil)) mNil))) (mCall c_of (mCons (mVar 2) (mCons (mL kFl (mCons (mVar 10) (mCons (mBin kIx (mVar 3) (mC (.int 0))) mNil))) mNil)))) sSkip)) [p0, p1, some (.ref n), some (.fl (ks.map .str)), p4, p5, p6, some (.ref r), some (.ref m), some (.int d), some u, p11, p12, p13, p14] h3 =
      (sIf (mB (mBin kNeH (mVar 8) (mL kFl mNil))) (sSetIx (mVar 8) (mCall c_take (mCons (mVar 2) (mCons (mL kLen (mCons (mVar 8) mNil)) mNil))) (mCall c_of (mCons (mVar 2) (mCons (mL kFl (mCons (mVar 10) (mCons (mBin kIx (mVar 3) (mC (.int 0))) mNil))) mNil)))) sSkip) [p0, p1, some (.ref n), some (.fl (ks.map .str)), p4, p5, p6, some (.ref r), some (.ref m), some (.int d), some u, p11, p12, p13, p14] h3 := fun c => by
    generalize ks.map AV.str = K at *
    generalize hB : (sIf (mB (mBin kNeH (mVar 8) (mL kFl mNil))) (sSetIx (mVar 8) (mCall c_take (mCons (mVar 2) (mCons (mL kLen (mCons (mVar 8) mNil)) mNil))) (mCall c_of (mCons (mVar 2) (mCons (mL kFl (mCons (mVar 10) (mCons (mBin kIx (mVar 3) (mC (.int 0))) mNil))) mNil)))) sSkip) = BB
    cases hr : rs with
    | nil => rw [hr] at nr; simp [nr]
    | cons x y =>
      rw [hr] at nr
      have hd : ¬ d = 0 := fun z => c ⟨by simp [hr], z⟩
      simp [nr, hd]
  by_cases c : rs ≠ [] ∧ d = 0
  · obtain ⟨cr, cd⟩ := c
    have hl : 0 < rs.length := List.length_pos_iff.mpr cr
    have nr' : kNeH (.ref r) (.fl []) h3 = some (.bl true, h3) := by
      rw [nr]
      cases hr : rs with
      | nil => exact absurd hr cr
      | cons x y => rfl
    obtain ⟨j, h4, e4, j0, j1, D4⟩ := take_ok (k := (rs.length : Int)) D3.1 (by omega) (by have := T.lr; omega)
    obtain ⟨j, rfl⟩ : ∃ i : Nat, j = (i : Int) := ⟨j.toNat, by omega⟩
    have hj : j < rs.length := by omega
    obtain ⟨S4, T4⟩ := drew D4 S1 T1
    obtain ⟨i, h5, e5, i0, i1, D5⟩ := take_ok (k := (rs.length : Int)) D4.1 (by omega) (by have := T.lr; omega)
    obtain ⟨i, rfl⟩ : ∃ q : Nat, i = (q : Int) := ⟨i.toNat, by omega⟩
    have hi : i < rs.length := by omega
    obtain ⟨S5, T5⟩ := drew D5 S4 T4
    have gj := T.gr rs[j] (List.getElem_mem hj)
    have gi := T.gr rs[i] (List.getElem_mem hi)
    have kx : ∀ {h : AH} {q : Nat} (hq : q < rs.length), h[r]? = some (some (.lst (rs.map pairV))) → kIx (.ref r) (.int (q : Nat)) h = some (pairV rs[q], h) := fun {h q} hq e => by
      rw [kIx_ref, e]
      simp only
      rw [atI_ev, ixN_ev, if_pos (by omega), if_pos (by rw [List.length_map]; omega)]
      simp [hq]
    have x4 := kx hj T4.er
    have x5 := kx hi T5.er
    have kl3 : kLen [.ref r] h3 = some (.int (rs.length : Nat), h3) := by rw [kLen_ref, T1.er]; simp
    have kl4 : kLen [.ref r] h4 = some (.int (rs.length : Nat), h4) := by rw [kLen_ref, T4.er]; simp
    obtain ⟨pj, hpj⟩ : ∃ p, rs[j] = p := ⟨_, rfl⟩
    obtain ⟨pi, hpi⟩ : ∃ p, rs[i] = p := ⟨_, rfl⟩
    rw [hpj] at x4 gj
    rw [hpi] at x5 gi
    obtain ⟨k, w⟩ := pj
    obtain ⟨k2, w2⟩ := pi
    have pk := (gd_kd gj.1.1).pl
    have pw := (gd_kd gj.2.1.1).pl
    have pk2 := (gd_kd gi.1.1).pl
    have x6 : ∀ h, kIx (.tup [k2, w2]) (.int 0) h = some (k2, h) := fun _ => rfl
    obtain ⟨nw, h6, e6, m6, D6⟩ := of_ok (xs := [.tup [u, w], .tup [k, u], .tup [k2, w]]) D5.1 (by simp) (by simp)
    obtain ⟨S6, T6⟩ := drew D6 S5 T5
    obtain ⟨np, hnp, gnp⟩ : ∃ p, nw = pairV p ∧ GoodR ks p := by
      simp only [List.mem_cons, List.not_mem_nil, or_false] at m6
      rcases m6 with rfl | rfl | rfl
      · exact ⟨(u, w), rfl, tu, gj.2.1, .inr ku⟩
      · exact ⟨(k, u), rfl, gj.1, tu, gj.2.2⟩
      · exact ⟨(k2, w), rfl, gi.1, gj.2.1, gi.2.2⟩
    have er6 := T6.er
    obtain ⟨h7, hh7⟩ : ∃ h7, h7 = h6.set r (some (AO.lst ((rs.map pairV).set j nw))) := ⟨_, rfl⟩
    have er7 : h7[r]? = some (some (.lst ((rs.set j np).map pairV))) := by
      rw [hh7, at_set T6.er, hnp, List.map_set]
    have k7 : ∀ q, q ≠ r → h7[q]? = h6[q]? := fun q hq => by rw [hh7, List.getElem?_set_ne (fun z => hq z.symm)]
    have st : (sIf (mTAnd (mB (mBin kNeH (mVar 7) (mL kFl mNil))) (mB (mBin kEqH (mVar 9) (mC (.int 0))))) (sSeq (sSet 11 (mCall c_take (mCons (mVar 2) (mCons (mL kLen (mCons (mVar 7) mNil)) mNil)))) q3_law) (sIf (mB (mBin kNeH (mVar 8) (mL kFl mNil))) (sSetIx (mVar 8) (mCall c_take (mCons (mVar 2) (mCons (mL kLen (mCons (mVar 8) mNil)) mNil))) (mCall c_of (mCons (mVar 2) (mCons (mL kFl (mCons (mVar 10) (mCons (mBin kIx (mVar 3) (mC (.int 0))) mNil))) mNil)))) sSkip)) [p0, p1, some (.ref n), some (.fl (ks.map .str)), p4, p5, p6, some (.ref r), some (.ref m), some (.int d), some u, p11, p12, p13, p14] h3 =
        .nx [p0, p1, some (.ref n), some (.fl (ks.map .str)), p4, p5, p6, some (.ref r), some (.ref m), some (.int d), some u, some (.int (j : Nat)), some (.tup [k2, w]), some k, some w] h7 := by
      generalize ks.map AV.str = K at *
      simp [-kLen_ref, -kIx_ref, nr', cd, kl3, e4, q3_law, x4, pairV, q2_law, kl4, e5, x5, x6, q1_law, pu, pk, pw, pk2, e6, er6, hj, hh7]
    rw [st]
    refine fin _ _ _ _ (bag_fr D6.1 (k7 n (by omega))) (S6.mono (k7 a (by omega)) (k7 b (by omega))) ⟨er7, (k7 m (by omega)).trans T6.em, fun p hp => ?_, T.gn, by rw [List.length_set]; exact T.lr, T.ln⟩
    rcases List.mem_or_eq_of_mem_set hp with hp | rfl
    · exact T.gr p hp
    · exact gnp
  · rw [nam c]
    cases hn : ns with
    | nil =>
      rw [hn] at nm
      have st : (sIf (mB (mBin kNeH (mVar 8) (mL kFl mNil))) (sSetIx (mVar 8) (mCall c_take (mCons (mVar 2) (mCons (mL kLen (mCons (mVar 8) mNil)) mNil))) (mCall c_of (mCons (mVar 2) (mCons (mL kFl (mCons (mVar 10) (mCons (mBin kIx (mVar 3) (mC (.int 0))) mNil))) mNil)))) sSkip) [p0, p1, some (.ref n), some (.fl (ks.map .str)), p4, p5, p6, some (.ref r), some (.ref m), some (.int d), some u, p11, p12, p13, p14] h3 = .nx [p0, p1, some (.ref n), some (.fl (ks.map .str)), p4, p5, p6, some (.ref r), some (.ref m), some (.int d), some u, p11, p12, p13, p14] h3 := by
        generalize ks.map AV.str = K at *
        simp [nm]
      rw [st]
      exact fin _ _ _ _ D3.1 S1 T1
    | cons x y =>
      have hl : 0 < ns.length := by rw [hn]; simp
      have nm' : kNeH (.ref m) (.fl []) h3 = some (.bl true, h3) := by rw [nm, hn]; rfl
      obtain ⟨nw, h4, e4, m4, D4⟩ := of_ok (xs := [u, .str k0]) D3.1 (by simp) (by simp)
      obtain ⟨S4, T4⟩ := drew D4 S1 T1
      obtain ⟨j, h5, e5, j0, j1, D5⟩ := take_ok (k := (ns.length : Int)) D4.1 (by omega) (by have := T.ln; omega)
      obtain ⟨j, rfl⟩ : ∃ i : Nat, j = (i : Int) := ⟨j.toNat, by omega⟩
      obtain ⟨S5, T5⟩ := drew D5 S4 T4
      have kl4 : kLen [.ref m] h4 = some (.int (ns.length : Nat), h4) := by rw [kLen_ref, T4.em]
      have em5 := T5.em
      have hjn : j < ns.length := by omega
      have gnw : GoodN (ks.map ownS) nw := by
        simp only [List.mem_cons, List.not_mem_nil, or_false] at m4
        rcases m4 with rfl | rfl
        · exact ⟨tu, .inr nu⟩
        · exact ⟨thg_str (key_tx (hk k0 h0)), .inr (key_noname (hk k0 h0))⟩
      obtain ⟨h7, hh7⟩ : ∃ h7, h7 = h5.set m (some (AO.lst (ns.set j nw))) := ⟨_, rfl⟩
      have k7 : ∀ q, q ≠ m → h7[q]? = h5[q]? := fun q hq => by rw [hh7, List.getElem?_set_ne (fun z => hq z.symm)]
      have st : (sIf (mB (mBin kNeH (mVar 8) (mL kFl mNil))) (sSetIx (mVar 8) (mCall c_take (mCons (mVar 2) (mCons (mL kLen (mCons (mVar 8) mNil)) mNil))) (mCall c_of (mCons (mVar 2) (mCons (mL kFl (mCons (mVar 10) (mCons (mBin kIx (mVar 3) (mC (.int 0))) mNil))) mNil)))) sSkip) [p0, p1, some (.ref n), some (.fl (ks.map .str)), p4, p5, p6, some (.ref r), some (.ref m), some (.int d), some u, p11, p12, p13, p14] h3 = .nx [p0, p1, some (.ref n), some (.fl (ks.map .str)), p4, p5, p6, some (.ref r), some (.ref m), some (.int d), some u, p11, p12, p13, p14] h7 := by
        generalize ks.map AV.str = K at *
        simp [-kLen_ref, nm', pu, x0, e4, kl4, e5, em5, hjn, hh7]
      rw [st]
      refine fin _ _ _ _ (bag_fr D5.1 (k7 n (by omega))) (S5.mono (k7 a (by omega)) (k7 b (by omega))) (rs' := rs) (ns' := ns.set j nw) ⟨(k7 r (by omega)).trans T5.er, by rw [hh7]; exact at_set em5, T.gr, fun v hv => ?_, T.lr, by rw [List.length_set]; exact T.ln⟩
      rcases List.mem_or_eq_of_mem_set hv with hv | rfl
      · exact T.gn v hv
      · exact gnw
end
end Wk11
namespace Wk11
open PySem PySem.Spec PyProof.Rows L2 PI
def Inv (S : AV) (τ : AS) (_ : AH) : Prop := ∃ ys : AS, ys.length = 14 ∧ τ = some S :: ys
def rsA (rs : List (Str × Int)) : List (AV × AV) := rs.map fun p => (.str p.1, .int p.2)
theorem dueR_good {ks : List Str} : ∀ (rs : List (Str × Int)) (seen : List Str), (∀ p, p ∈ rs → p.1 ∈ ks ∧ -GR ≤ p.2 ∧ p.2 ≤ GR ∧ ¬ p.1 ∈ seen) → (rs.map (·.1)).Nodup → dueR ks (rsA rs) seen = none
  | [], _, _, _ => rfl
  | p :: rs, seen, H, nd => by
    obtain ⟨a, b, c, d⟩ := H p (by simp)
    rw [List.map_cons, List.nodup_cons] at nd
    show dueR ks ((.str p.1, .int p.2) :: rsA rs) seen = none
    simp only [dueR]
    rw [if_pos ⟨a, d⟩, show intB (.int p.2) = true from decide_eq_true ⟨b, c⟩, if_pos rfl]
    refine dueR_good rs _ (fun q hq => ?_) nd.2
    obtain ⟨a', b', c', d'⟩ := H q (List.mem_cons_of_mem _ hq)
    refine ⟨a', b', c', fun z => ?_⟩
    rcases List.mem_append.mp z with z | z
    · exact d' z
    · exact nd.1 (by rw [← List.mem_singleton.mp z]; exact List.mem_map.mpr ⟨q, hq, rfl⟩)
theorem dueN_good {os : List Str} : ∀ ns : List Str, (∀ x, x ∈ ns → x ∈ os) → dueN os (ns.map .str) = none
  | [], _ => rfl
  | x :: ns, H => by
    rw [List.map_cons, dueN, if_pos (H x (by simp))]
    exact dueN_good ns fun y hy => H y (List.mem_cons_of_mem _ hy)
theorem body_ok (sc : List Int) (hn : sc.length ≤ 63) (at' : Nat) (ha : at' < 1000) (p2 p3 p4 p5 p6 p7 p8 p9 p10 p11 p12 p13 p14 : Option AV) (h : AH) :
    Goon (Inv (.fl (sc.map .int))) (l1_law [some (.fl (sc.map .int)), some (.int (at' : Nat)), p2, p3, p4, p5, p6, p7, p8, p9, p10, p11, p12, p13, p14] h) := by
  obtain ⟨bo0, e1, B1⟩ := bag_ok sc hn at' ha h
  generalize hh : h ++ [some bo0] = h1 at e1 B1
  generalize hnn : h.length = n at e1 B1
  have n1 := bag_lt B1
  obtain ⟨d, h2, e2, d0, d1, D2⟩ := take_ok (k := 5) B1 (by omega) (by omega)
  obtain ⟨d, rfl⟩ : ∃ i : Nat, d = (i : Int) := ⟨d.toNat, by omega⟩
  obtain ⟨ks, h3, e3, lk, hk, nk, B3, F3⟩ := keys_ok D2.1 (k := 2 + d) (by omega)
  have e3' : c_keys [.ref n, .int (2 + (d : Int))] h2 = .ok (.fl (ks.map .str)) h3 := by rw [show (2 + (d : Int)) = ((2 + d : Nat) : Int) from by omega]; exact e3
  obtain ⟨rs0, h4, e4, B4, er4, l4, k4, rg, sb⟩ := rows_ok B3 (ks := ks) (by omega)
  obtain ⟨os0, h5, e5, B5, em5, l5, k5, og, ol⟩ := owners_ok B4 (ks := ks) hk (by omega)
  have n3 := bag_lt B3
  have er5 : h5[h3.length]? = some (some (.lst ((rsA rs0).map pairV))) := by
    rw [k5 h3.length (by omega) (by omega), er4]
    unfold rsA
    rw [List.map_map]
    rfl
  have lr : rs0.length ≤ ks.length := by have := sb.length_le; simpa using this
  have gr : ∀ p, p ∈ rsA rs0 → GoodR ks p := fun p hp => by
    obtain ⟨q, hq, rfl⟩ := List.mem_map.mp hp
    have hx : q.1 ∈ ks := sb.subset (List.mem_map.mpr ⟨q, hq, rfl⟩)
    exact ⟨thg_str (key_tx (hk _ hx)), thg_int _, .inl ⟨_, hx, rfl⟩⟩
  have gn : ∀ v, v ∈ os0.map AV.str → GoodN (ks.map ownS) v := fun v hv => by
    obtain ⟨x, hx, rfl⟩ := List.mem_map.mp hv
    obtain ⟨k, hkk, rfl⟩ := og x hx
    exact ⟨thg_str (fit_tx (own_fit (hk k hkk))), .inl ⟨_, List.mem_map.mpr ⟨k, hkk, rfl⟩, rfl⟩⟩
  have due : dueO ks (rsA rs0) (os0.map .str) = none := by
    unfold dueO
    rw [dueR_good rs0 [] (fun p hp => ⟨sb.subset (List.mem_map.mpr ⟨p, hp, rfl⟩), (rg p hp).1, (rg p hp).2, by simp⟩) (nk.sublist sb)]
    exact dueN_good os0 fun x hx => by
      obtain ⟨k, hkk, rfl⟩ := og x hx
      exact List.mem_map.mpr ⟨k, hkk, rfl⟩
  have lrs : (rsA rs0).length = rs0.length := by unfold rsA; rw [List.length_map]
  rcases init_ok hk er5 em5 gr gn (by omega) (by rw [List.length_map]; omega) with ⟨_, l, bo, e6, il, ll, tb, lb⟩ | ⟨q, v, h', ed, _, _⟩
  case inr => rw [due] at ed; cases ed
  obtain ⟨h6, hh6⟩ : ∃ h6, h6 = h5 ++ [some (AO.dk (gD l))] ++ [some (AO.dk (gD bo))] := ⟨_, rfl⟩
  rw [← hh6] at e6
  have kp : Kp h5 h6 := by rw [hh6]; exact Kp.app.trans Kp.app
  have B6 : BagAt h6 n := bag_fr B5 (kp.keep n (bag_lt B5))
  rw [List.length_map] at lb
  have S6 : StAt h6 ks h5.length (h5.length + 1) l bo := ⟨by omega, by rw [hh6]; simp, by rw [hh6]; simp, il, tb, by omega, by omega⟩
  have T6 : Tn h6 ks h3.length h4.length (rsA rs0) (os0.map .str) := ⟨kp.at er5, kp.at em5, gr, gn, by omega, by rw [List.length_map]; omega⟩
  have A : Ad n h3.length h4.length h5.length (h5.length + 1) := ⟨by omega⟩
  have r1 := all_rows_ok S6
  have r2 := all_owners_ok S6
  obtain ⟨k0, e0, h0⟩ : ∃ k0, (ks.map AV.str)[0]? = some (.str k0) ∧ k0 ∈ ks := by
    match ks, lk with
    | k :: r, _ => exact ⟨k, rfl, by simp⟩
    | [], z => simp at z; omega
  generalize hS : AV.fl (sc.map .int) = S at *
  have pS : plainV S = true := by rw [← hS]; rfl
  have lk2 : ks.length ≤ 1000 := by omega
  have c0 : (sSet 2 (mCall c_bag (mCons (mVar 0) (mCons (mVar 1) mNil)))) [some S, some (.int (at' : Nat)), p2, p3, p4, p5, p6, p7, p8, p9, p10, p11, p12, p13, p14] h = .nx [some S, some (.int (at' : Nat)), some (.ref n), p3, p4, p5, p6, p7, p8, p9, p10, p11, p12, p13, p14] h1 := by
    simp [pS, e1]
  unfold l1_law
  rw [sSeq_ev, c0, thn_nx]
  have c1 : (sSet 3 (mCall c_keys (mCons (mVar 2) (mCons (mBin kAdd (mC (.int 2)) (mCall c_take (mCons (mVar 2) (mCons (mC (.int 5)) mNil)))) mNil)))) [some S, some (.int (at' : Nat)), some (.ref n), p3, p4, p5, p6, p7, p8, p9, p10, p11, p12, p13, p14] h1 = .nx [some S, some (.int (at' : Nat)), some (.ref n), some (.fl (ks.map .str)), p4, p5, p6, p7, p8, p9, p10, p11, p12, p13, p14] h3 := by
    generalize ks.map AV.str = K at *
    simp [e2, e3']
  unfold q11_law
  rw [sSeq_ev, c1, thn_nx]
  have c2 : (sPar 7 8 (mCons (mCall c_rows (mCons (mVar 2) (mCons (mVar 3) mNil))) (mCons (mCall c_owners (mCons (mVar 2) (mCons (mVar 3) mNil))) mNil))) [some S, some (.int (at' : Nat)), some (.ref n), some (.fl (ks.map .str)), p4, p5, p6, p7, p8, p9, p10, p11, p12, p13, p14] h3 = .nx [some S, some (.int (at' : Nat)), some (.ref n), some (.fl (ks.map .str)), p4, p5, p6, some (.ref h3.length), some (.ref h4.length), p9, p10, p11, p12, p13, p14] h5 := by
    generalize ks.map AV.str = K at *
    simp [e4, e5]
  unfold q10_law
  rw [sSeq_ev, c2, thn_nx]
  generalize h3.length = r at *
  generalize h4.length = m at *
  generalize h5.length = a at *
  have c3 : (sSet 4 (mMkN 13 2 0 (chkI 3 m_Store__init) [0, 1] [.tup [], .tup []] (mCons (mVar 7) (mCons (mVar 8) mNil)) mNil)) [some S, some (.int (at' : Nat)), some (.ref n), some (.fl (ks.map .str)), p4, p5, p6, some (.ref r), some (.ref m), p9, p10, p11, p12, p13, p14] h5 = .nx [some S, some (.int (at' : Nat)), some (.ref n), some (.fl (ks.map .str)), some (stV a (a + 1)), p5, p6, some (.ref r), some (.ref m), p9, p10, p11, p12, p13, p14] h6 := by
    generalize ks.map AV.str = K at *
    simp [pickL, e6, stV]
  unfold q9_law
  rw [sSeq_ev, c3, thn_nx]
  have c4 : (sSet 5 (mL kFl (mCons (mMet 13 47 c_Store_all_rows (mVar 4) mNil) (mCons (mMet 13 48 c_Store_all_owners (mVar 4) mNil) mNil)))) [some S, some (.int (at' : Nat)), some (.ref n), some (.fl (ks.map .str)), some (stV a (a + 1)), p5, p6, some (.ref r), some (.ref m), p9, p10, p11, p12, p13, p14] h6 = .nx [some S, some (.int (at' : Nat)), some (.ref n), some (.fl (ks.map .str)), some (stV a (a + 1)), some (.fl [rowsO l, ownsO bo]), p6, some (.ref r), some (.ref m), p9, p10, p11, p12, p13, p14] h6 := by
    generalize ks.map AV.str = K at *
    generalize rowsO l = R at *
    generalize ownsO bo = O at *
    simp [pl_st, fo_st, r1, r2]
  unfold q8_law
  rw [sSeq_ev, c4, thn_nx]
  have hr3 : ∀ τ h, mRng1 (mCons (mC (.int 3)) mNil) τ h = .ok (rngA 0 3) h := fun τ h => rfl
  unfold q7_law
  rw [sSeq_ev, sFor_ev, hr3]
  simp only [bindS_ok, fFor_ev]
  refine Goon.thn (P := Goon (Inv S)) (goon_for (fun τ h' => ∃ rs ns q6 q9 q10 q11 q12 q13 q14, BagAt h' n ∧ StAt h' ks a (a + 1) l bo ∧ Tn h' ks r m rs ns ∧ τ = [some S, some (.int (at' : Nat)), some (.ref n), some (.fl (ks.map .str)), some (stV a (a + 1)), some (.fl [rowsO l, ownsO bo]), q6, some (.ref r), some (.ref m), q9, q10, q11, q12, q13, q14]) (rngA 0 3) (fun v hv τ h' q => ?_) _ h6 ⟨_, _, p6, p9, p10, p11, p12, p13, p14, B6, S6, T6, rfl⟩) ?_
  · obtain ⟨rs, ns, q6, q9, q10, q11, q12, q13, q14, B', S', T', rfl⟩ := q
    obtain ⟨rs', ns', s9, s10, s11, s12, s13, s14, h7, ef, B7, S7, T7⟩ := turn_ok hk A B' S' T' lk2 e0 h0 (some S) (some (.int (at' : Nat))) (some (stV a (a + 1))) (some (.fl [rowsO l, ownsO bo])) (some v) q9 q10 q11 q12 q13 q14
    refine ⟨[some S, some (.int (at' : Nat)), some (.ref n), some (.fl (ks.map .str)), some (stV a (a + 1)), some (.fl [rowsO l, ownsO bo]), some v, some (.ref r), some (.ref m), q9, q10, q11, q12, q13, q14], by simp, ?_⟩
    rw [ef, goon_nx]
    exact ⟨rs', ns', some v, s9, s10, s11, s12, s13, s14, B7, S7, T7, rfl⟩
  rintro τ h7 ⟨rs, ns, q6, q9, q10, q11, q12, q13, q14, B7, S7, T7, rfl⟩
  obtain ⟨h8, e8⟩ := in_use_ok hk B7 S7 (by have := A.h; omega) (by have := A.h; omega) e0 h0
  have pk : plainV (.fl [rowsO l, ownsO bo]) = true := rfl
  have c5 : q6_law [some S, some (.int (at' : Nat)), some (.ref n), some (.fl (ks.map .str)), some (stV a (a + 1)), some (.fl [rowsO l, ownsO bo]), q6, some (.ref r), some (.ref m), q9, q10, q11, q12, q13, q14] h7 = .nx [some S, some (.int (at' : Nat)), some (.ref n), some (.fl (ks.map .str)), some (stV a (a + 1)), some (.fl [rowsO l, ownsO bo]), q6, some (.ref r), some (.ref m), q9, q10, q11, q12, q13, q14] h8 := by
    generalize ks.map AV.str = K at *
    generalize rowsO l = R at *
    generalize ownsO bo = O at *
    simp [q6_law, pl_st, pk, e8]
  rw [c5, goon_nx]
  exact ⟨_, rfl, rfl⟩
theorem law_true (ns : List Int) (hn : ns.length ≤ 63) : ∃ h', m_law [.fl (ns.map .int)] [] = .ok (.bl true) h' := by
  have hr : rOk (if (if (ns.length : Int) < 8 then (ns.length : Int) else 8) > 1 then (if (ns.length : Int) < 8 then (ns.length : Int) else 8) else 1) = true := by
    unfold rOk
    apply decide_eq_true
    split <;> (try split) <;> omega
  obtain ⟨τ', h', e, ys, hy, rfl⟩ := goon_for (g := gN 1) (b := l1_law) (Inv (.fl (ns.map .int))) (rngA 0 (if (if (ns.length : Int) < 8 then (ns.length : Int) else 8) > 1 then (if (ns.length : Int) < 8 then (ns.length : Int) else 8) else 1)) (fun v hv τ h q => by
    obtain ⟨ys, hy, rfl⟩ := q
    unfold rngA at hv
    simp at hv
    obtain ⟨a, ha, rfl⟩ := hv
    have ha : a < 1000 := by split at ha <;> (try split at ha) <;> omega
    match ys, hy with
    | [p1, p2, p3, p4, p5, p6, p7, p8, p9, p10, p11, p12, p13, p14], _ =>
      exact ⟨[some (.fl (ns.map .int)), some (.int a), p2, p3, p4, p5, p6, p7, p8, p9, p10, p11, p12, p13, p14], by simp, body_ok ns hn a ha _ _ _ _ _ _ _ _ _ _ _ _ _ h⟩) [some (.fl (ns.map .int)), none, none, none, none, none, none, none, none, none, none, none, none, none, none] [] ⟨_, rfl, rfl⟩
  refine ⟨h', ?_⟩
  have k1 : kLen [.fl (ns.map .int)] [] = some (.int (ns.length : Nat), []) := by rw [kLen_fl, List.length_map]
  generalize hS : ns.map AV.int = S at *
  simp [-kLen_fl, m_law, b_law, k1, hr, e, q12_law]
end Wk11
namespace Wk11
open PySem PySem.Spec PyProof.Rows L2 ClX PI
theorem walk {l : PySem.W.OpenLaw} {q : Program} {loose : List Str} {XP : (Str → Option Value) → Heap → Prop} {YP : World → Heap → Prop} {d : DefRec} {K : Params → PySem.W.Frag} (hn : l.most = some 63) (hdf : d.params.defaults = [])
    (hY : ∀ (w : World) (h : Heap), YP w h → (K w.params).In h)
    (F : ∀ (w : World) (mg : Str → Option Value) (fa : Addr) (h : Heap), (K w.params).In h → h.Ns mainGlobals mg → mg d.name = some (.ref fa) →
      ∃ fd : FuncData, (∀ (s : Shared) (u : Value), BindsTo s fd ⟨[u], []⟩ [("_law_script", u)]) ∧ ∀ base : Heap, (K w.params).In base → base.Ns mainGlobals mg → ∃ G : Gx, K w.params = G.K ∧ FnOk l.prog w (K w.params) mg base (L2.CX l.prog w) 8 fa fd ["_law_script"] (spF G 1 m_law)) :
    PySem.W.WalkO q loose XP YP l.row.toRowW d [] (fun f vs => PySem.call f vs) :=
  L2.walk_of (n := 63) (k := 8) (x := "_law_script") (CX := fun w => L2.CX l.prog w) (sp := fun w => spLaw (K w.params)) hn (by decide) hdf ⟨rfl, by decide, by decide⟩ hY
    (fun w mg fa h a b c => let ⟨fd, hb, hF⟩ := F w mg fa h a b c; ⟨fd, hb, fun base i j => let ⟨_, hK, ff⟩ := hF base i j; law_end hK ff law_true⟩)
    (fun _ _ a ns hl _ hS => ⟨a, ns, rfl, hS, hl, fun _ => rfl⟩) fun w H s e s' ⟨_, _, _, _, _, _, _, _, _, _, _, _, z⟩ => z
end Wk11
open PySem PySem.W PyProof.Rows in
set_option maxRecDepth 100000 in
set_option maxHeartbeats 0 in
theorem PySem.Challenge.cw_chunkedloads_k11_stores_refused_holds : PySem.Challenge.rw_chunkedloads_k11_stores_refused.Holds := by
  w_on; o_law; k_head; (case hw => w_witness2)
  k_fill
  refine Wk11.walk (l := PySem.Challenge.rw_chunkedloads_k11_stores_refused) rfl rfl (fun w h Y => PySem.W.kIn_of Y) ?F
  case F =>
    intro w mg fa h KX G hmg
    refine' Wk11.all_mk KX G hmg ?u_g12 ?u_g13 ?u_g1 ?u_g3 ?u_a0 ?u_l0 ?u_c0 ?u_k0 ?u_a1 ?u_l1 ?u_c1 ?u_k1 ?u_a2 ?u_l2 ?u_c2 ?u_k2 ?u_a3 ?u_l3 ?u_c3 ?u_k3 ?u_a4 ?u_l4 ?u_c4 ?u_k4 ?u_a5 ?u_l5 ?u_c5 ?u_k5 ?u_a6 ?u_l6 ?u_c6 ?u_k6 ?u_a7 ?u_l7 ?u_c7 ?u_k7 ?u_a8 ?u_l8 ?u_c8 ?u_k8 ?u_a9 ?u_l9 ?u_c9 ?u_k9 ?u_a10 ?u_l10 ?u_c10 ?u_k10 ?u_a11 ?u_l11 ?u_c11 ?u_k11 ?u_a12 ?u_l12 ?u_c12 ?u_k12 ?u_a13 ?u_l13 ?u_c13 ?u_k13 ?u_a14 ?u_l14 ?u_c14 ?u_k14 ?u_a15 ?u_l15 ?u_dl15_ ?u_dd15_ ?u_dr15_ ?u_c15 ?u_k15 ?u_a16 ?u_l16 ?u_c16 ?u_k16 ?u_a17 ?u_l17 ?u_c17 ?u_k17 ?u_a18 ?u_l18 ?u_c18 ?u_k18 ?u_a19 ?u_l19 ?u_c19 ?u_k19 ?u_a20 ?u_l20 ?u_c20 ?u_k20 ?u_a21 ?u_l21 ?u_c21 ?u_k21 ?u_a22 ?u_l22 ?u_c22 ?u_k22 ?u_a23 ?u_l23 ?u_c23 ?u_k23 ?u_a24 ?u_l24 ?u_c24 ?u_k24 ?u_a25 ?u_l25 ?u_c25 ?u_k25 ?u_a26 ?u_l26 ?u_c26 ?u_k26 ?u_a27 ?u_l27 ?u_c27 ?u_k27 ?u_a28 ?u_l28 ?u_c28 ?u_k28 ?u_a29 ?u_l29 ?u_c29 ?u_k29 ?u_a30 ?u_l30 ?u_c30 ?u_k30 ?u_a31 ?u_l31 ?u_c31 ?u_k31 ?u_a32 ?u_l32 ?u_c32 ?u_k32 ?u_a33 ?u_l33 ?u_c33 ?u_k33 ?u_gc_GREATEST ?u_gc_LETTERS ?u_gc_MOST_SIGNS ?u_z_abs ?u_z_bool ?u_z_dict ?u_z_enumerate ?u_z_int ?u_z_isinstance ?u_z_len ?u_z_list ?u_z_max ?u_z_min ?u_z_range ?u_z_sorted ?u_z_str ?u_pg12 ?u_hd12 ?u_po12 ?u_sa12 ?u_pg13 ?u_hd13 ?u_po13 ?u_sa13 ?u_no12_43 ?u_no12_42 ?u_no13_43 ?u_no13_42 ?u_mm13 ?u_mi13 ?u_mf13 ?u_mp13 ?u_ea13_48 ?u_ef13_48 ?u_ea13_47 ?u_ef13_47 ?u_ea13_51 ?u_ef13_51 ?u_ea13_52 ?u_ef13_52 ?u_ea13_46 ?u_ef13_46 ?u_ea13_45 ?u_ef13_45 ?u_xL1 ?u_xR1 ?u_xS1 ?u_xE1 ?u_xT1 ?u_xK1 ?u_xI1 ?u_xF1 ?u_xn1_0 ?u_xn1_1 ?u_xL3 ?u_xR3 ?u_xS3 ?u_xE3 ?u_xT3 ?u_xK3 ?u_xI3 ?u_xF3 ?u_xn3_4 ?u_sa13_contains ?u_sf13_contains ?u_si13_contains ?u_sq13_contains ?u_sa13_getitem ?u_sf13_getitem ?u_si13_getitem ?u_sq13_getitem ?u_sa13_setitem ?u_sf13_setitem ?u_si13_setitem ?u_sq13_setitem ?u_yg1 ?u_yk1 ?u_yd1 ?u_yc1 ?u_ys1 ?u_ya1 ?u_yn1 ?u_yt1 ?u_ym1 ?u_yg3 ?u_yk3 ?u_yd3 ?u_yc3 ?u_ys3 ?u_ya3 ?u_yn3 ?u_yt3 ?u_ym3 ?u_yo1_0 ?u_yo1_1 ?u_yo3_4 ?u_mt1_1 ?u_mt1_3 ?u_mt3_1 ?u_mt3_3 ?u_ko12_13 ?u_kg12_NoneType ?u_kg12_bool ?u_kg12_int ?u_kg12_str ?u_kg12_tuple ?u_kg12_list ?u_kg12_dict ?u_ia13 ?u_in13 ?u_it13 ?u_im13 ?u_kf12_1 ?u_kf12_3 ?u_tle15_0 ?u_tce15_0 ?u_tde15_0 ?u_tze15_0 ?u_tve15_0 ?u_tle15_1 ?u_tce15_1 ?u_tde15_1 ?u_tze15_1 ?u_tve15_1
    (case u_g12 => first | k_is | rfl | decide +kernel)
    (case u_g13 => first | k_is | rfl | decide +kernel)
    (case u_g1 => first | k_is | rfl | decide +kernel)
    (case u_g3 => first | k_is | rfl | decide +kernel)
    (case u_a0 => first | k_is | rfl | decide +kernel)
    (case u_l0 => first | k_is | rfl | decide +kernel)
    (case u_c0 => first | k_is | rfl | decide +kernel)
    (case u_k0 => first | k_is | rfl | decide +kernel)
    (case u_a1 => first | k_is | rfl | decide +kernel)
    (case u_l1 => first | k_is | rfl | decide +kernel)
    (case u_c1 => first | k_is | rfl | decide +kernel)
    (case u_k1 => first | k_is | rfl | decide +kernel)
    (case u_a2 => first | k_is | rfl | decide +kernel)
    (case u_l2 => first | k_is | rfl | decide +kernel)
    (case u_c2 => first | k_is | rfl | decide +kernel)
    (case u_k2 => first | k_is | rfl | decide +kernel)
    (case u_a3 => first | k_is | rfl | decide +kernel)
    (case u_l3 => first | k_is | rfl | decide +kernel)
    (case u_c3 => first | k_is | rfl | decide +kernel)
    (case u_k3 => first | k_is | rfl | decide +kernel)
    (case u_a4 => first | k_is | rfl | decide +kernel)
    (case u_l4 => first | k_is | rfl | decide +kernel)
    (case u_c4 => first | k_is | rfl | decide +kernel)
    (case u_k4 => first | k_is | rfl | decide +kernel)
    (case u_a5 => first | k_is | rfl | decide +kernel)
    (case u_l5 => first | k_is | rfl | decide +kernel)
    (case u_c5 => first | k_is | rfl | decide +kernel)
    (case u_k5 => first | k_is | rfl | decide +kernel)
    (case u_a6 => first | k_is | rfl | decide +kernel)
    (case u_l6 => first | k_is | rfl | decide +kernel)
    (case u_c6 => first | k_is | rfl | decide +kernel)
    (case u_k6 => first | k_is | rfl | decide +kernel)
    (case u_a7 => first | k_is | rfl | decide +kernel)
    (case u_l7 => first | k_is | rfl | decide +kernel)
    (case u_c7 => first | k_is | rfl | decide +kernel)
    (case u_k7 => first | k_is | rfl | decide +kernel)
    (case u_a8 => first | k_is | rfl | decide +kernel)
    (case u_l8 => first | k_is | rfl | decide +kernel)
    (case u_c8 => first | k_is | rfl | decide +kernel)
    (case u_k8 => first | k_is | rfl | decide +kernel)
    (case u_a9 => first | k_is | rfl | decide +kernel)
    (case u_l9 => first | k_is | rfl | decide +kernel)
    (case u_c9 => first | k_is | rfl | decide +kernel)
    (case u_k9 => first | k_is | rfl | decide +kernel)
    (case u_a10 => first | k_is | rfl | decide +kernel)
    (case u_l10 => first | k_is | rfl | decide +kernel)
    (case u_c10 => first | k_is | rfl | decide +kernel)
    (case u_k10 => first | k_is | rfl | decide +kernel)
    (case u_a11 => first | k_is | rfl | decide +kernel)
    (case u_l11 => first | k_is | rfl | decide +kernel)
    (case u_c11 => first | k_is | rfl | decide +kernel)
    (case u_k11 => first | k_is | rfl | decide +kernel)
    (case u_a12 => first | k_is | rfl | decide +kernel)
    (case u_l12 => first | k_is | rfl | decide +kernel)
    (case u_c12 => first | k_is | rfl | decide +kernel)
    (case u_k12 => first | k_is | rfl | decide +kernel)
    (case u_a13 => first | k_is | rfl | decide +kernel)
    (case u_l13 => first | k_is | rfl | decide +kernel)
    (case u_c13 => first | k_is | rfl | decide +kernel)
    (case u_k13 => first | k_is | rfl | decide +kernel)
    (case u_a14 => first | k_is | rfl | decide +kernel)
    (case u_l14 => first | k_is | rfl | decide +kernel)
    (case u_c14 => first | k_is | rfl | decide +kernel)
    (case u_k14 => first | k_is | rfl | decide +kernel)
    (case u_a15 => first | k_is | rfl | decide +kernel)
    (case u_l15 => first | k_is | rfl | decide +kernel)
    (case u_dl15_ => first | k_is | rfl | decide +kernel)
    (case u_dd15_ => rfl)
    (case u_dr15_ => exact (.cons rfl (.cons rfl .nil)))
    (case u_c15 => first | k_is | rfl | decide +kernel)
    (case u_k15 => first | k_is | rfl | decide +kernel)
    (case u_a16 => first | k_is | rfl | decide +kernel)
    (case u_l16 => first | k_is | rfl | decide +kernel)
    (case u_c16 => first | k_is | rfl | decide +kernel)
    (case u_k16 => first | k_is | rfl | decide +kernel)
    (case u_a17 => first | k_is | rfl | decide +kernel)
    (case u_l17 => first | k_is | rfl | decide +kernel)
    (case u_c17 => first | k_is | rfl | decide +kernel)
    (case u_k17 => first | k_is | rfl | decide +kernel)
    (case u_a18 => first | k_is | rfl | decide +kernel)
    (case u_l18 => first | k_is | rfl | decide +kernel)
    (case u_c18 => first | k_is | rfl | decide +kernel)
    (case u_k18 => first | k_is | rfl | decide +kernel)
    (case u_a19 => first | k_is | rfl | decide +kernel)
    (case u_l19 => first | k_is | rfl | decide +kernel)
    (case u_c19 => first | k_is | rfl | decide +kernel)
    (case u_k19 => first | k_is | rfl | decide +kernel)
    (case u_a20 => first | k_is | rfl | decide +kernel)
    (case u_l20 => first | k_is | rfl | decide +kernel)
    (case u_c20 => first | k_is | rfl | decide +kernel)
    (case u_k20 => first | k_is | rfl | decide +kernel)
    (case u_a21 => first | k_is | rfl | decide +kernel)
    (case u_l21 => first | k_is | rfl | decide +kernel)
    (case u_c21 => first | k_is | rfl | decide +kernel)
    (case u_k21 => first | k_is | rfl | decide +kernel)
    (case u_a22 => first | k_is | rfl | decide +kernel)
    (case u_l22 => first | k_is | rfl | decide +kernel)
    (case u_c22 => first | k_is | rfl | decide +kernel)
    (case u_k22 => first | k_is | rfl | decide +kernel)
    (case u_a23 => first | k_is | rfl | decide +kernel)
    (case u_l23 => first | k_is | rfl | decide +kernel)
    (case u_c23 => first | k_is | rfl | decide +kernel)
    (case u_k23 => first | k_is | rfl | decide +kernel)
    (case u_a24 => first | k_is | rfl | decide +kernel)
    (case u_l24 => first | k_is | rfl | decide +kernel)
    (case u_c24 => first | k_is | rfl | decide +kernel)
    (case u_k24 => first | k_is | rfl | decide +kernel)
    (case u_a25 => first | k_is | rfl | decide +kernel)
    (case u_l25 => first | k_is | rfl | decide +kernel)
    (case u_c25 => first | k_is | rfl | decide +kernel)
    (case u_k25 => first | k_is | rfl | decide +kernel)
    (case u_a26 => first | k_is | rfl | decide +kernel)
    (case u_l26 => first | k_is | rfl | decide +kernel)
    (case u_c26 => first | k_is | rfl | decide +kernel)
    (case u_k26 => first | k_is | rfl | decide +kernel)
    (case u_a27 => first | k_is | rfl | decide +kernel)
    (case u_l27 => first | k_is | rfl | decide +kernel)
    (case u_c27 => first | k_is | rfl | decide +kernel)
    (case u_k27 => first | k_is | rfl | decide +kernel)
    (case u_a28 => first | k_is | rfl | decide +kernel)
    (case u_l28 => first | k_is | rfl | decide +kernel)
    (case u_c28 => first | k_is | rfl | decide +kernel)
    (case u_k28 => first | k_is | rfl | decide +kernel)
    (case u_a29 => first | k_is | rfl | decide +kernel)
    (case u_l29 => first | k_is | rfl | decide +kernel)
    (case u_c29 => first | k_is | rfl | decide +kernel)
    (case u_k29 => first | k_is | rfl | decide +kernel)
    (case u_a30 => first | k_is | rfl | decide +kernel)
    (case u_l30 => first | k_is | rfl | decide +kernel)
    (case u_c30 => first | k_is | rfl | decide +kernel)
    (case u_k30 => first | k_is | rfl | decide +kernel)
    (case u_a31 => first | k_is | rfl | decide +kernel)
    (case u_l31 => first | k_is | rfl | decide +kernel)
    (case u_c31 => first | k_is | rfl | decide +kernel)
    (case u_k31 => first | k_is | rfl | decide +kernel)
    (case u_a32 => first | k_is | rfl | decide +kernel)
    (case u_l32 => first | k_is | rfl | decide +kernel)
    (case u_c32 => first | k_is | rfl | decide +kernel)
    (case u_k32 => first | k_is | rfl | decide +kernel)
    (case u_a33 => first | k_is | rfl | decide +kernel)
    (case u_l33 => first | k_is | rfl | decide +kernel)
    (case u_c33 => first | k_is | rfl | decide +kernel)
    (case u_k33 => first | k_is | rfl | decide +kernel)
    (case u_gc_GREATEST => first | k_is | rfl | decide +kernel)
    (case u_gc_LETTERS => first | k_is | rfl | decide +kernel)
    (case u_gc_MOST_SIGNS => first | k_is | rfl | decide +kernel)
    (case u_z_abs => first | k_is | rfl | decide +kernel)
    (case u_z_bool => first | k_is | rfl | decide +kernel)
    (case u_z_dict => first | k_is | rfl | decide +kernel)
    (case u_z_enumerate => first | k_is | rfl | decide +kernel)
    (case u_z_int => first | k_is | rfl | decide +kernel)
    (case u_z_isinstance => first | k_is | rfl | decide +kernel)
    (case u_z_len => first | k_is | rfl | decide +kernel)
    (case u_z_list => first | k_is | rfl | decide +kernel)
    (case u_z_max => first | k_is | rfl | decide +kernel)
    (case u_z_min => first | k_is | rfl | decide +kernel)
    (case u_z_range => first | k_is | rfl | decide +kernel)
    (case u_z_sorted => first | k_is | rfl | decide +kernel)
    (case u_z_str => first | k_is | rfl | decide +kernel)
    (case u_pg12 => first | k_is | rfl | decide +kernel)
    (case u_hd12 => first | k_is | rfl | decide +kernel)
    (case u_po12 => first | k_is | rfl | decide +kernel)
    (case u_sa12 => first | k_is | rfl | decide +kernel)
    (case u_pg13 => first | k_is | rfl | decide +kernel)
    (case u_hd13 => first | k_is | rfl | decide +kernel)
    (case u_po13 => first | k_is | rfl | decide +kernel)
    (case u_sa13 => first | k_is | rfl | decide +kernel)
    (case u_no12_43 => first | k_is | rfl | decide +kernel)
    (case u_no12_42 => first | k_is | rfl | decide +kernel)
    (case u_no13_43 => first | k_is | rfl | decide +kernel)
    (case u_no13_42 => first | k_is | rfl | decide +kernel)
    (case u_mm13 => first | k_is | rfl | decide +kernel)
    (case u_mi13 => first | k_is | rfl | decide +kernel)
    (case u_mf13 => first | k_is | rfl | decide +kernel)
    (case u_mp13 => first | k_is | rfl | decide +kernel)
    (case u_ea13_48 => first | k_is | rfl | decide +kernel)
    (case u_ef13_48 => first | k_is | rfl | decide +kernel)
    (case u_ea13_47 => first | k_is | rfl | decide +kernel)
    (case u_ef13_47 => first | k_is | rfl | decide +kernel)
    (case u_ea13_51 => first | k_is | rfl | decide +kernel)
    (case u_ef13_51 => first | k_is | rfl | decide +kernel)
    (case u_ea13_52 => first | k_is | rfl | decide +kernel)
    (case u_ef13_52 => first | k_is | rfl | decide +kernel)
    (case u_ea13_46 => first | k_is | rfl | decide +kernel)
    (case u_ef13_46 => first | k_is | rfl | decide +kernel)
    (case u_ea13_45 => first | k_is | rfl | decide +kernel)
    (case u_ef13_45 => first | k_is | rfl | decide +kernel)
    (case u_xL1 => first | k_is | rfl | decide +kernel)
    (case u_xR1 => decide +kernel)
    (case u_xS1 => first | k_is | rfl | decide +kernel)
    (case u_xE1 => first | k_is | rfl | decide +kernel)
    (case u_xT1 => first | k_is | rfl | decide +kernel)
    (case u_xK1 => first | k_is | rfl | decide +kernel)
    (case u_xI1 => first | k_is | rfl | decide +kernel)
    (case u_xF1 => first | k_is | rfl | decide +kernel)
    (case u_xn1_0 => first | k_is | rfl | decide +kernel)
    (case u_xn1_1 => first | k_is | rfl | decide +kernel)
    (case u_xL3 => first | k_is | rfl | decide +kernel)
    (case u_xR3 => decide +kernel)
    (case u_xS3 => first | k_is | rfl | decide +kernel)
    (case u_xE3 => first | k_is | rfl | decide +kernel)
    (case u_xT3 => first | k_is | rfl | decide +kernel)
    (case u_xK3 => first | k_is | rfl | decide +kernel)
    (case u_xI3 => first | k_is | rfl | decide +kernel)
    (case u_xF3 => first | k_is | rfl | decide +kernel)
    (case u_xn3_4 => first | k_is | rfl | decide +kernel)
    (case u_sa13_contains => first | k_is | rfl | decide +kernel)
    (case u_sf13_contains => first | k_is | rfl | decide +kernel)
    (case u_si13_contains => first | k_is | rfl | decide +kernel)
    (case u_sq13_contains => first | k_is | rfl | decide +kernel)
    (case u_sa13_getitem => first | k_is | rfl | decide +kernel)
    (case u_sf13_getitem => first | k_is | rfl | decide +kernel)
    (case u_si13_getitem => first | k_is | rfl | decide +kernel)
    (case u_sq13_getitem => first | k_is | rfl | decide +kernel)
    (case u_sa13_setitem => first | k_is | rfl | decide +kernel)
    (case u_sf13_setitem => first | k_is | rfl | decide +kernel)
    (case u_si13_setitem => first | k_is | rfl | decide +kernel)
    (case u_sq13_setitem => first | k_is | rfl | decide +kernel)
    (case u_yg1 => first | k_is | rfl | decide +kernel)
    (case u_yk1 => first | k_is | rfl | decide +kernel)
    (case u_yd1 => first | k_is | rfl | decide +kernel)
    (case u_yc1 => first | k_is | rfl | decide +kernel)
    (case u_ys1 => first | k_is | rfl | decide +kernel)
    (case u_ya1 => first | k_is | rfl | decide +kernel)
    (case u_yn1 => first | k_is | rfl | decide +kernel)
    (case u_yt1 => first | k_is | rfl | decide +kernel)
    (case u_ym1 => first | k_is | rfl | decide +kernel)
    (case u_yg3 => first | k_is | rfl | decide +kernel)
    (case u_yk3 => first | k_is | rfl | decide +kernel)
    (case u_yd3 => first | k_is | rfl | decide +kernel)
    (case u_yc3 => first | k_is | rfl | decide +kernel)
    (case u_ys3 => first | k_is | rfl | decide +kernel)
    (case u_ya3 => first | k_is | rfl | decide +kernel)
    (case u_yn3 => first | k_is | rfl | decide +kernel)
    (case u_yt3 => first | k_is | rfl | decide +kernel)
    (case u_ym3 => first | k_is | rfl | decide +kernel)
    (case u_yo1_0 => first | k_is | rfl | decide +kernel)
    (case u_yo1_1 => first | k_is | rfl | decide +kernel)
    (case u_yo3_4 => first | k_is | rfl | decide +kernel)
    (case u_mt1_1 => first | k_is | rfl | decide +kernel)
    (case u_mt1_3 => first | k_is | rfl | decide +kernel)
    (case u_mt3_1 => first | k_is | rfl | decide +kernel)
    (case u_mt3_3 => first | k_is | rfl | decide +kernel)
    (case u_ko12_13 => first | k_is | rfl | decide +kernel)
    (case u_kg12_NoneType => first | k_is | rfl | decide +kernel)
    (case u_kg12_bool => first | k_is | rfl | decide +kernel)
    (case u_kg12_int => first | k_is | rfl | decide +kernel)
    (case u_kg12_str => first | k_is | rfl | decide +kernel)
    (case u_kg12_tuple => first | k_is | rfl | decide +kernel)
    (case u_kg12_list => first | k_is | rfl | decide +kernel)
    (case u_kg12_dict => first | k_is | rfl | decide +kernel)
    (case u_ia13 => first | k_is | rfl | decide +kernel)
    (case u_in13 => first | k_is | rfl | decide +kernel)
    (case u_it13 => first | k_is | rfl | decide +kernel)
    (case u_im13 => first | k_is | rfl | decide +kernel)
    (case u_kf12_1 => first | k_is | rfl | decide +kernel)
    (case u_kf12_3 => first | k_is | rfl | decide +kernel)
    (case u_tle15_0 => first | k_is | rfl | decide +kernel)
    (case u_tce15_0 => rfl)
    (case u_tde15_0 => rfl)
    (case u_tze15_0 => decide +kernel)
    (case u_tve15_0 => exact .nil)
    (case u_tle15_1 => first | k_is | rfl | decide +kernel)
    (case u_tce15_1 => rfl)
    (case u_tde15_1 => rfl)
    (case u_tze15_1 => decide +kernel)
    (case u_tve15_1 => exact .nil)
