import PyProof.Rows.All
import Wide.All
import OpenK.AllK
import Wide.FinOn
import PyProof.EqAt
import PyProof.EqKinds
import PyProof.TupleCall
import HandS.ForMost
import HandS.WordsExc
import HandS.Exc
import HandS.ExcInit
import HandS.Defaults
import HandS.HeadHook1
import HandS.HeadHook2
import HandS.HeadHook3
import HandS.HeadHook4
import HandS.HeadEnd
import HandS.Head0
import HandS.Head1
import HandS.Head2
import HandS.Wide
import HandS.Gcd
import HandS.Lambda
import HandS.IsInst
import HandS.Deep
import HandS.ClsMeth
import HandS.Zip
import HandS.FStr
import HandS.Text
import HandS.Style
import HandS.LawCells
import KE.KExcInit
import HandS.ExcField
import HandS.TryMany
import HandS.ExcOwn
import HandS.HotCalls
import KE.KTryMore
import HandS.EndTab
import HandS.Head3
import KE.KOpsOwn
import PyProof.InstEq
import KE.KCallOwn
import HandS.Small
import HandS.Property
import HandS.Star
import HandS.MakeKw
import KE.GoesEnum
import HandS.TupAny
import PyProof.StrBlock2
import PyProof.Conv_bool
import HandS.HeadNt
import HandS.Codes
import KE.IntTextLaws
import HandS.Nested
import KE.KSuper
import HandS.TupMul
import PyProof.SumWalkG
import HandS.Dict
import HandS.DictComp
import HandS.List
import PyProof.Rows.StrMeet
import KE.KEqDict
import HandS.DictEq
import HandS.TryOnly
import HandS.StrSplit
import HandS.Finally
import KE.OsSetLaws
import KE.SortData
import KE.KDictCopyH
import HandS.DictTup
import HandS.ExcIs
import KE.KExcIs
import PySem.Challenge.RW_anystride_k01_errors_by_themselves
/-! DA -/
set_option Elab.async false
set_option linter.all false
set_option maxRecDepth 100000
set_option maxHeartbeats 4000000
/-! Data beneath the heap: values as trees, and what stands for them. -/
namespace DL
open PySem PySem.Spec PyProof.Rows L2
/-- a lambda without parameters: what its function object holds -/
structure LamO where
  q : Str
  params : Arguments
  body : Expr
  scope : Scope
  cl : List (Str × Addr)
  pm : Value
  c' : Addr
  ctv : Value
def LamO.obj (o : LamO) : Obj := PySem.W.kla_obj "<lambda>" o.q o.params o.body o.scope o.cl o.pm o.c' o.ctv
/-- the object at f is that function -/
def FnH (f : Addr) (o : LamO) : HO := .ext fun h => h.get? f = some o.obj
inductive D where
  | non | bl (b : Bool) | int (i : Int) | str (x : Str)
  | tup (xs : List D) | lst (xs : List D) | dic (ks : List Key) (xs : List D)
  | ins (c : Str) (ns : List Str) (xs : List D)
  | bag
  | clo (o : LamO)
  | frl (a : Addr) (xs : List D)
  | frd (ks : List Key) (xs : List D)
  | exc (c : Str) (ns : List Str) (xs : List D)
  | cel (a : Addr)
abbrev Fg := PySem.W.Frag
/-- a list that nobody has locked -/
def SqS (K : Fg) (H : Hp) (a : Addr) (xs : List V) : Prop :=
  (H a = some (.lst xs) ∨ False) ∨
    ∃ (o : Obj) (its : Array Value) (n : Nat), K.lookup a = some o ∧ o.cls = .type "list" ∧ o.dict = none ∧ o.data = .seq its n ∧ its.size ≤ sizeLine ∧ Vals xs its.toList
theorem SqS.l {K : Fg} {H : Hp} {a : Addr} {xs : List V} (h : SqS K H a xs) : SqL K H a xs := h.imp (fun h => h.imp id fun h => h.elim) id
section
variable (K : Fg) (b : Option Addr) (H : Hp)
mutual
def Rep : D → V → Prop
  | .non, v => v = .non
  | .bl x, v => v = .bl x
  | .int i, v => v = .int i
  | .str x, v => v = .str x
  | .tup ds, v => ∃ a vs, v = .ref a ∧ some a ≠ b ∧ SqT K H a vs ∧ Reps ds vs
  | .lst ds, v => ∃ a vs, v = .ref a ∧ some a ≠ b ∧ SqS K H a vs ∧ Reps ds vs
  | .dic ks ds, v => ∃ a o vs, v = .ref a ∧ some a ≠ b ∧ H a = some (.frz o (.dK (ks.zip vs))) ∧ ks.length = vs.length ∧ Reps ds vs
  | .ins c ns ds, v => ∃ a dx vs, v = .ref a ∧ some a ≠ b ∧ H a = some (.ins (He.ga K c) dx (ns.zip vs)) ∧ ns.length = vs.length ∧ Reps ds vs
  | .bag, v => ∃ a, v = .ref a ∧ b = some a
  | .clo o, v => ∃ f, v = .ref f ∧ some f ≠ b ∧ H f = some (FnH f o) ∧ some o.c' ≠ b ∧ H o.c' = some (LamX.CodeO o.c' o.q)
  | .frl f ds, v => ∃ o vs, v = .ref f ∧ some f ≠ b ∧ H f = some (.frz o (.lst vs)) ∧ Reps ds vs
  | .frd ks ds, v => ∃ a vs, v = .ref a ∧ some a ≠ b ∧ H a = some (.dK (ks.zip vs)) ∧ ks.length = vs.length ∧ Reps ds vs
  | .exc c ns ds, v => ∃ a dx vs, v = .ref a ∧ some a ≠ b ∧ some dx ≠ b ∧ H a = some (exo a (He.ga K c) (some dx)) ∧ H dx = some (exd dx (ns.zip vs)) ∧ ns.length = vs.length ∧ Reps ds vs
  | .cel a, v => v = .ref a
def Reps : List D → List V → Prop
  | [], vs => vs = []
  | d :: r, vs => ∃ v q, vs = v :: q ∧ Rep d v ∧ Reps r q
end
end
/-- what may change is the bag alone -/
def nt : HO → Bool
  | .tbl _ => false
  | _ => true
def Le (b : Option Addr) (H H' : Hp) : Prop := ∀ a o, some a ≠ b → H a = some o → nt o = true → H' a = some o
/-- the tables of code objects stay tables of the same names -/
class TabC where
  T : List (Addr × Str)
variable [TabC]
def Tk (H H' : Hp) : Prop := LamX.Tabs TabC.T H → LamX.Tabs TabC.T H'
def BagAt (H : Hp) (a : Addr) : Prop := ∃ (c : Addr) (i j m : Int) (ns : List Int), H a = some (.lst [.ref c, .int i, .int j, .int m]) ∧ c ≠ a ∧ H c = some (.lst (ns.map V.int)) ∧ 0 ≤ i
def Bg (b : Option Addr) (H : Hp) : Prop := ∀ a, b = some a → BagAt H a
/-- the bag stays a bag of the same cells -/
def Bs (b : Option Addr) (H H' : Hp) : Prop := ∀ a, b = some a → ∀ (c : Addr) (i j m : Int), H a = some (.lst [.ref c, .int i, .int j, .int m]) → 0 ≤ i → ∃ i' j' : Int, 0 ≤ i' ∧ H' a = some (.lst [.ref c, .int i', .int j', .int m])
def Ext (b : Option Addr) (H H' : Hp) : Prop := Le b H H' ∧ Bs b H H' ∧ Tk H H'
def hide (O : List Addr) (H : Hp) : Hp := fun a => if a ∈ O then none else H a
theorem Le.refl {b : Option Addr} (H : Hp) : Le b H H := fun _ _ _ h _ => h
theorem Le.trans {b : Option Addr} {H H1 H2 : Hp} (x : Le b H H1) (y : Le b H1 H2) : Le b H H2 := fun a o n h t => y a o n (x a o n h t) t
theorem Ext.refl {b : Option Addr} (H : Hp) : Ext b H H := ⟨.refl H, fun a e c i j m h h0 => ⟨i, j, h0, h⟩, fun h => h⟩
theorem Ext.trans {b : Option Addr} {H H1 H2 : Hp} (x : Ext b H H1) (y : Ext b H1 H2) : Ext b H H2 := ⟨x.1.trans y.1, fun a e c i j m h h0 => by
  obtain ⟨i', j', h1, h2⟩ := x.2.1 a e c i j m h h0
  exact y.2.1 a e c i' j' m h2 h1, fun h => y.2.2 (x.2.2 h)⟩
theorem hide_in {O : List Addr} {H : Hp} {a : Addr} (h : a ∈ O) : hide O H a = none := if_pos h
theorem hide_out {O : List Addr} {H : Hp} {a : Addr} (h : a ∉ O) : hide O H a = H a := if_neg h
theorem of_hide {O : List Addr} {H : Hp} {a : Addr} {o : HO} (h : hide O H a = some o) : a ∉ O ∧ H a = some o := by
  unfold hide at h
  split at h
  · cases h
  · exact ⟨by assumption, h⟩
theorem hide_le {b : Option Addr} {O : List Addr} {H : Hp} : Le b (hide O H) H := fun _ _ _ h _ => (of_hide h).2
theorem Le.hide {b : Option Addr} {H H' : Hp} (O : List Addr) (x : Le b H H') : Le b (hide O H) (hide O H') := fun a o n h t => by
  obtain ⟨h1, h2⟩ := of_hide h
  rw [hide_out h1]
  exact x a o n h2 t
theorem hide_upd {O : List Addr} {H : Hp} {a : Addr} {o : HO} (h : a ∈ O) : DL.hide O (upd H a o) = DL.hide O H := by
  funext c
  unfold DL.hide
  by_cases hc : c ∈ O
  · rw [if_pos hc, if_pos hc]
  · rw [if_neg hc, if_neg hc, upd_ne (fun e => hc (by rw [e]; exact h))]
theorem hide_new {O : List Addr} {H : Hp} {a : Addr} {o : HO} (h : a ∉ O) : DL.hide O (upd H a o) = upd (DL.hide O H) a o := by
  funext c
  unfold DL.hide upd
  by_cases e : c = a
  · subst e; simp [h]
  · simp [e]
theorem hide_mono {b : Option Addr} {O O' : List Addr} {H : Hp} (h : ∀ a ∈ O, a ∈ O') : Le b (DL.hide O' H) (DL.hide O H) := fun a o _ e _ => by
  obtain ⟨h1, h2⟩ := of_hide e
  rw [hide_out (fun z => h1 (h a z))]
  exact h2
theorem Le.new {b : Option Addr} {H : Hp} {p : Addr} {o : HO} (h : H p = none) : Le b H (upd H p o) := fun a u _ e _ => by
  rw [upd_ne (ne_of_none e h)]
  exact e
theorem Bg.le {b : Option Addr} {H H' : Hp} (h : Bg b H) (x : ∀ a o, H a = some o → H' a = some o) : Bg b H' := fun a e => by
  obtain ⟨c, i, j, m, ns, h1, h2, h3, h4⟩ := h a e
  exact ⟨c, i, j, m, ns, x _ _ h1, h2, x _ _ h3, h4⟩
theorem Ext.all {b : Option Addr} {H H' : Hp} (x : ∀ a o, H a = some o → H' a = some o) : Ext b H H' := ⟨fun a o _ h _ => x a o h, fun a e c i j m h h0 => ⟨i, j, h0, x _ _ h⟩, fun t => t.ext x⟩
/-- what may be hidden: nothing else leans on it -/
def Hid (O : List Addr) (H : Hp) (a : Addr) : Prop := ∃ o, H a = some o ∧ match o with
  | .lst _ => True
  | .dK _ => True
  | .dT _ => True
  | .ins _ dx _ => dx ∈ O
  | .own x => x ∈ O ∧ ∃ C fs, H x = some (.ins C a fs)
  | _ => False
theorem Hid.ne {O : List Addr} {H : Hp} {a : Addr} (h : Hid O H a) : H a ≠ none := by
  obtain ⟨o, e, _⟩ := h
  rw [e]; simp
theorem Hid.nt {O : List Addr} {H : Hp} {a : Addr} (h : Hid O H a) : ∃ o, H a = some o ∧ nt o = true ∧ ∀ c q, o ≠ LamX.CodeO c q := by
  obtain ⟨o, e, h⟩ := h
  refine ⟨o, e, ?_, fun c q z => ?_⟩
  · cases o <;> first | rfl | exact h.elim
  · subst z
    exact h.elim
theorem tab_hide {O : List Addr} {H : Hp} {P : Addr} {q : Str} (hO : ∀ a ∈ O, ∃ o, H a = some o ∧ DL.nt o = true ∧ ∀ c q, o ≠ LamX.CodeO c q) (t : LamX.TabS H P q) : LamX.TabS (DL.hide O H) P q := by
  obtain ⟨ps, h1, h2, h3⟩ := t
  refine ⟨ps, ?_, h2, fun pos cv hc => ?_⟩
  · rw [hide_out (fun m => ?_)]; exact h1
    obtain ⟨o, e, n, _⟩ := hO P m
    rw [h1] at e; cases e; cases n
  · obtain ⟨c, e1, e2⟩ := h3 pos cv hc
    refine ⟨c, e1, ?_⟩
    rw [hide_out (fun m => ?_)]; exact e2
    obtain ⟨o, e, _, n⟩ := hO c m
    rw [e2] at e; cases e; exact n _ _ rfl
theorem tabs_unhide {O : List Addr} {H : Hp} {T : List (Addr × Str)} (t : LamX.Tabs T (DL.hide O H)) : LamX.Tabs T H := t.ext fun _ _ e => (of_hide e).2
theorem tabs_hide {O : List Addr} {H : Hp} {T : List (Addr × Str)} (hO : ∀ a ∈ O, ∃ o, H a = some o ∧ DL.nt o = true ∧ ∀ c q, o ≠ LamX.CodeO c q) (t : LamX.Tabs T H) : LamX.Tabs T (DL.hide O H) := fun p hp => tab_hide hO (t p hp)
theorem Ext.hide {b : Option Addr} {H H' : Hp} {O : List Addr} (x : Ext b H H') (hO : ∀ a ∈ O, some a ≠ b ∧ Hid O H a) : Ext b (DL.hide O H) (DL.hide O H') := ⟨x.1.hide O, fun a e c i j m h h0 => by
  obtain ⟨h1, h2⟩ := of_hide h
  rw [hide_out h1]
  exact x.2.1 a e c i j m h2 h0, fun t => tabs_hide (fun a m => by
    obtain ⟨n, h⟩ := hO a m
    obtain ⟨o, e, t1, t2⟩ := h.nt
    exact ⟨o, x.1 a o n e t1, t1, t2⟩) (x.2.2 (tabs_unhide t))⟩
theorem Bg.ext {b : Option Addr} {H H' : Hp} (h : Bg b H) (x : Ext b H H') : Bg b H' := fun a e => by
  obtain ⟨c, i, j, m, ns, h1, h2, h3, h4⟩ := h a e
  obtain ⟨i', j', h5, h6⟩ := x.2.1 a e c i j m h1 h4
  exact ⟨c, i', j', m, ns, h6, h2, x.1 c _ (fun z => h2 (Option.some.inj (z.trans e))) h3 rfl, h5⟩
theorem Ext.new {b : Option Addr} {H : Hp} {p : Addr} {o : HO} (h : H p = none) : Ext b H (upd H p o) := .all fun a u e => by
  rw [upd_ne (ne_of_none e h)]
  exact e
theorem Bg.ne {b : Option Addr} {H : Hp} (h : Bg b H) {p : Addr} (hp : H p = none) : some p ≠ b := fun e => by
  obtain ⟨c, i, j, m, ns, h1, _⟩ := h p e.symm
  rw [hp] at h1; cases h1
section
variable {K : Fg} {b : Option Addr} {H H' : Hp}
theorem rd_mono {a : Addr} {u : HO} (x : Le b H H') (hb : some a ≠ b) (h : Rd H a u) (t : nt u = true) : Rd H' a u := by
  rcases h with h | ⟨o, h⟩
  · exact .inl (x _ _ hb h t)
  · exact .inr ⟨o, x _ _ hb h rfl⟩
theorem sqL_mono {a : Addr} {xs : List V} (x : Le b H H') (hb : some a ≠ b) (h : SqL K H a xs) : SqL K H' a xs := by
  rcases h with h | h
  · exact .inl (rd_mono x hb h rfl)
  · exact .inr h
theorem sqS_mono {a : Addr} {xs : List V} (x : Le b H H') (hb : some a ≠ b) (h : SqS K H a xs) : SqS K H' a xs := by
  rcases h with (h | h) | h
  · exact .inl (.inl (x _ _ hb h rfl))
  · exact h.elim
  · exact .inr h
theorem sqT_mono {a : Addr} {xs : List V} (x : Le b H H') (hb : some a ≠ b) (h : SqT K H a xs) : SqT K H' a xs := by
  rcases h with h | h
  · exact .inl (rd_mono x hb h rfl)
  · exact .inr h
mutual
theorem Rep.mono (x : Le b H H') : ∀ {d : D} {v : V}, Rep K b H d v → Rep K b H' d v
  | .non, _, h => h
  | .bl _, _, h => h
  | .int _, _, h => h
  | .str _, _, h => h
  | .tup ds, v, h => by
    simp only [Rep] at h ⊢
    obtain ⟨a, vs, e, n, q, r⟩ := h
    exact ⟨a, vs, e, n, sqT_mono x n q, Reps.mono x r⟩
  | .lst ds, v, h => by
    simp only [Rep] at h ⊢
    obtain ⟨a, vs, e, n, q, r⟩ := h
    exact ⟨a, vs, e, n, sqS_mono x n q, Reps.mono x r⟩
  | .dic ks ds, v, h => by
    simp only [Rep] at h ⊢
    obtain ⟨a, o, vs, e, n, q, l, r⟩ := h
    exact ⟨a, o, vs, e, n, x _ _ n q rfl, l, Reps.mono x r⟩
  | .ins c ns ds, v, h => by
    simp only [Rep] at h ⊢
    obtain ⟨a, dx, vs, e, n, q, l, r⟩ := h
    exact ⟨a, dx, vs, e, n, x _ _ n q rfl, l, Reps.mono x r⟩
  | .bag, _, h => h
  | .clo o, v, h => by
    simp only [Rep] at h ⊢
    obtain ⟨f, e, n, q, n2, q2⟩ := h
    exact ⟨f, e, n, x _ _ n q rfl, n2, x _ _ n2 q2 rfl⟩
  | .frl f ds, v, h => by
    simp only [Rep] at h ⊢
    obtain ⟨o, vs, e, n, q, r⟩ := h
    exact ⟨o, vs, e, n, x _ _ n q rfl, Reps.mono x r⟩
  | .frd ks ds, v, h => by
    simp only [Rep] at h ⊢
    obtain ⟨a, vs, e, n, q, l, r⟩ := h
    exact ⟨a, vs, e, n, x _ _ n q rfl, l, Reps.mono x r⟩
  | .exc c ns ds, v, h => by
    simp only [Rep] at h ⊢
    obtain ⟨a, dx, vs, e, n, n2, q, q2, l, r⟩ := h
    exact ⟨a, dx, vs, e, n, n2, x _ _ n q rfl, x _ _ n2 q2 rfl, l, Reps.mono x r⟩
  | .cel _, _, h => h
theorem Reps.mono (x : Le b H H') : ∀ {ds : List D} {vs : List V}, Reps K b H ds vs → Reps K b H' ds vs
  | [], _, h => h
  | d :: r, vs, h => by
    simp only [Reps] at h ⊢
    obtain ⟨v, q, e, h1, h2⟩ := h
    exact ⟨v, q, e, Rep.mono x h1, Reps.mono x h2⟩
end
theorem Reps.length : ∀ {ds : List D} {vs : List V}, Reps K b H ds vs → ds.length = vs.length
  | [], _, h => by simp only [Reps] at h; rw [h]; rfl
  | d :: r, vs, h => by
    simp only [Reps] at h
    obtain ⟨v, q, rfl, _, h2⟩ := h
    simp [Reps.length h2]
theorem Reps.nil : Reps K b H [] [] := by simp only [Reps]
theorem Reps.cons {d : D} {ds : List D} {v : V} {vs : List V} (h : Rep K b H d v) (r : Reps K b H ds vs) : Reps K b H (d :: ds) (v :: vs) := by
  simp only [Reps]
  exact ⟨v, vs, rfl, h, r⟩
theorem Reps.of_cons {d : D} {ds : List D} {vs : List V} (h : Reps K b H (d :: ds) vs) : ∃ v q, vs = v :: q ∧ Rep K b H d v ∧ Reps K b H ds q := by
  simpa only [Reps] using h
theorem Reps.of_nil {vs : List V} (h : Reps K b H [] vs) : vs = [] := by
  simpa only [Reps] using h
theorem Reps.append : ∀ {ds es : List D} {vs us : List V}, Reps K b H ds vs → Reps K b H es us → Reps K b H (ds ++ es) (vs ++ us)
  | [], _, _, _, h, q => by rw [h.of_nil]; exact q
  | d :: r, _, vs, _, h, q => by
    obtain ⟨v, w, rfl, h1, h2⟩ := h.of_cons
    exact Reps.cons h1 (Reps.append h2 q)
theorem Reps.get : ∀ {ds : List D} {vs : List V} {i : Nat} {d : D}, Reps K b H ds vs → ds[i]? = some d → ∃ v, vs[i]? = some v ∧ Rep K b H d v
  | [], _, _, _, _, e => by simp at e
  | d :: r, vs, 0, d', h, e => by
    obtain ⟨v, w, rfl, h1, h2⟩ := h.of_cons
    simp at e; subst e
    exact ⟨v, rfl, h1⟩
  | d :: r, vs, i + 1, d', h, e => by
    obtain ⟨v, w, rfl, h1, h2⟩ := h.of_cons
    obtain ⟨u, e1, e2⟩ := Reps.get h2 (by simpa using e)
    exact ⟨u, by simpa using e1, e2⟩
theorem Reps.take : ∀ {ds : List D} {vs : List V} (n : Nat), Reps K b H ds vs → Reps K b H (ds.take n) (vs.take n)
  | _, _, 0, _ => Reps.nil
  | [], _, n + 1, h => by rw [h.of_nil]; exact Reps.nil
  | d :: r, vs, n + 1, h => by
    obtain ⟨v, w, rfl, h1, h2⟩ := h.of_cons
    exact Reps.cons h1 (Reps.take n h2)
theorem Reps.drop : ∀ {ds : List D} {vs : List V} (n : Nat), Reps K b H ds vs → Reps K b H (ds.drop n) (vs.drop n)
  | _, _, 0, h => h
  | [], _, n + 1, h => by rw [h.of_nil]; exact Reps.nil
  | d :: r, vs, n + 1, h => by
    obtain ⟨v, w, rfl, h1, h2⟩ := h.of_cons
    exact Reps.drop n h2
theorem Reps.set {d : D} {v : V} (r : Rep K b H d v) : ∀ {ds : List D} {vs : List V} (i : Nat), Reps K b H ds vs → Reps K b H (ds.set i d) (vs.set i v)
  | [], _, _, h => by rw [h.of_nil]; exact Reps.nil
  | e :: q, vs, 0, h => by
    obtain ⟨w, u, rfl, h1, h2⟩ := h.of_cons
    exact Reps.cons r h2
  | e :: q, vs, i + 1, h => by
    obtain ⟨w, u, rfl, h1, h2⟩ := h.of_cons
    exact Reps.cons h1 (Reps.set r i h2)
theorem Rep.int {i : Int} {v : V} (h : Rep K b H (.int i) v) : v = .int i := h
theorem Rep.bl {i : Bool} {v : V} (h : Rep K b H (.bl i) v) : v = .bl i := h
theorem Rep.str {i : Str} {v : V} (h : Rep K b H (.str i) v) : v = .str i := h
theorem Rep.cel {a : Addr} {v : V} (h : Rep K b H (.cel a) v) : v = .ref a := h
theorem Rep.non {v : V} (h : Rep K b H .non v) : v = .non := h
theorem Rep.tup {ds : List D} {v : V} (h : Rep K b H (.tup ds) v) : ∃ a vs, v = .ref a ∧ some a ≠ b ∧ SqT K H a vs ∧ Reps K b H ds vs := by simpa only [Rep] using h
theorem Rep.lst {ds : List D} {v : V} (h : Rep K b H (.lst ds) v) : ∃ a vs, v = .ref a ∧ some a ≠ b ∧ SqL K H a vs ∧ Reps K b H ds vs := by
  simp only [Rep] at h
  obtain ⟨a, vs, e, n, q, r⟩ := h
  exact ⟨a, vs, e, n, q.l, r⟩
theorem Rep.frl {a : Addr} {ds : List D} {v : V} (h : Rep K b H (.frl a ds) v) : ∃ o vs, v = .ref a ∧ some a ≠ b ∧ H a = some (.frz o (.lst vs)) ∧ Reps K b H ds vs := by simpa only [Rep] using h
theorem Rep.frd {ks : List Key} {ds : List D} {v : V} (h : Rep K b H (.frd ks ds) v) : ∃ a vs, v = .ref a ∧ some a ≠ b ∧ H a = some (.dK (ks.zip vs)) ∧ ks.length = vs.length ∧ Reps K b H ds vs := by simpa only [Rep] using h
theorem Rep.exc {c : Str} {ns : List Str} {ds : List D} {v : V} (h : Rep K b H (.exc c ns ds) v) : ∃ a dx vs, v = .ref a ∧ some a ≠ b ∧ some dx ≠ b ∧ H a = some (exo a (He.ga K c) (some dx)) ∧ H dx = some (exd dx (ns.zip vs)) ∧ ns.length = vs.length ∧ Reps K b H ds vs := by simpa only [Rep] using h
theorem Rep.ins {c : Str} {ns : List Str} {ds : List D} {v : V} (h : Rep K b H (.ins c ns ds) v) : ∃ a dx vs, v = .ref a ∧ some a ≠ b ∧ H a = some (.ins (He.ga K c) dx (ns.zip vs)) ∧ ns.length = vs.length ∧ Reps K b H ds vs := by simpa only [Rep] using h
theorem Rep.mkTup {ds : List D} {a : Addr} {vs : List V} (hb : some a ≠ b) (h : SqT K H a vs) (r : Reps K b H ds vs) : Rep K b H (.tup ds) (.ref a) := by
  simp only [Rep]
  exact ⟨a, vs, rfl, hb, h, r⟩
theorem Rep.mkLst {ds : List D} {a : Addr} {vs : List V} (hb : some a ≠ b) (h : SqS K H a vs) (r : Reps K b H ds vs) : Rep K b H (.lst ds) (.ref a) := by
  simp only [Rep]
  exact ⟨a, vs, rfl, hb, h, r⟩
end
/-! ### the frame's slots as data -/
inductive SD where
  | unset | sh (d : D) | own (ds : List D) | obj (a dx : Addr) (c : Str) (ns : List Str) (ds : List D) | owd (ks : List Key) (ds : List D) | ott (ks : List (List Key)) (ds : List D) | gho (a : Addr) (ds : List D)
abbrev StD := List SD
def look : StD → Nat → SD
  | [], _ => .unset
  | x :: _, 0 => x
  | _ :: r, n + 1 => look r n
def put : StD → Nat → SD → StD
  | [], _, _ => []
  | _ :: r, 0, y => y :: r
  | x :: r, n + 1, y => x :: put r n y
theorem put_length : ∀ (σ : StD) (i : Nat) (x : SD), (put σ i x).length = σ.length
  | [], _, _ => rfl
  | _ :: _, 0, _ => rfl
  | _ :: r, n + 1, y => by simp [put, put_length r n y]
theorem look_put : ∀ {σ : StD} {i : Nat} {x : SD} (j : Nat), i < σ.length → look (put σ i x) j = if j = i then x else look σ j
  | [], _, _, _, h => by simp at h
  | _ :: _, 0, _, 0, _ => by simp [put, look]
  | _ :: _, 0, _, j + 1, _ => by simp [put, look]
  | _ :: _, i + 1, _, 0, _ => by simp [put, look]
  | _ :: r, i + 1, x, j + 1, h => by
    have ih := look_put (σ := r) (i := i) (x := x) j (by simpa using h)
    simp only [put, look, ih, Nat.add_right_cancel_iff]
theorem look_out : ∀ {σ : StD} {i : Nat}, σ.length ≤ i → look σ i = .unset
  | [], _, _ => rfl
  | _ :: _, 0, h => by simp at h
  | _ :: r, i + 1, h => by simp only [look]; exact look_out (by simpa using h)
def SlotOk (K : Fg) (b : Option Addr) (O : List Addr) (H : Hp) : SD → Option V → Prop
  | .unset, _ => True
  | .sh d, x => ∃ v, x = some v ∧ Rep K b (hide O H) d v
  | .own ds, x => ∃ a vs, x = some (.ref a) ∧ a ∈ O ∧ H a = some (.lst vs) ∧ Reps K b (hide O H) ds vs
  | .obj a dx c ns ds, x => ∃ vs, x = some (.ref a) ∧ a ∈ O ∧ dx ∈ O ∧ H a = some (.ins (He.ga K c) dx (ns.zip vs)) ∧ H dx = some (.own a) ∧ ns.length = vs.length ∧ Reps K b (hide O H) ds vs
  | .owd ks ds, x => ∃ a vs, x = some (.ref a) ∧ a ∈ O ∧ H a = some (.dK (ks.zip vs)) ∧ Reps K b (hide O H) ds vs
  | .ott ks ds, x => ∃ a vs, x = some (.ref a) ∧ a ∈ O ∧ H a = some (.dT (ks.zip vs)) ∧ Reps K b (hide O H) ds vs
  | .gho a ds, _ => ∃ vs, a ∈ O ∧ H a = some (.lst vs) ∧ Reps K b (hide O H) ds vs
def Owns : SD → Option V → Addr → Prop
  | .own _, some (.ref a), c => c = a
  | .obj _ _ _ _ _, some (.ref a), c => c = a
  | .owd _ _, some (.ref a), c => c = a
  | .ott _ _, some (.ref a), c => c = a
  | .gho a _, _, c => c = a
  | _, _, _ => False
structure Rst (K : Fg) (b : Option Addr) (H0 : Hp) (σd : StD) (σ : L2.St) (H : Hp) (O : List Addr) : Prop where
  len : σd.length = σ.length
  slot : ∀ i, SlotOk K b O H (look σd i) (σ.getD i none)
  uniq : ∀ i j a, Owns (look σd i) (σ.getD i none) a → Owns (look σd j) (σ.getD j none) a → i = j
  nb : ∀ a ∈ O, some a ≠ b ∧ True ∧ Hid O H a
  le : Ext b H0 (hide O H)
  bg : Bg b (hide O H)
section
variable {K : Fg} {b : Option Addr} {H0 H H' : Hp} {σd : StD} {σ : L2.St} {O : List Addr}
theorem SlotOk.mono (x : Ext b H H') (nb : ∀ a ∈ O, some a ≠ b) : ∀ {s : SD} {v : Option V}, SlotOk K b O H s v → SlotOk K b O H' s v
  | .unset, _, _ => trivial
  | .sh d, _, ⟨v, e, r⟩ => ⟨v, e, r.mono (x.1.hide O)⟩
  | .own ds, _, ⟨a, vs, e, m, h, r⟩ => ⟨a, vs, e, m, x.1 _ _ (nb a m) h rfl, r.mono (x.1.hide O)⟩
  | .obj a dx c ns ds, _, ⟨vs, e, m, md, h, hd, l, r⟩ => ⟨vs, e, m, md, x.1 _ _ (nb a m) h rfl, x.1 _ _ (nb dx md) hd rfl, l, r.mono (x.1.hide O)⟩
  | .owd ks ds, _, ⟨a, vs, e, m, h, r⟩ => ⟨a, vs, e, m, x.1 _ _ (nb a m) h rfl, r.mono (x.1.hide O)⟩
  | .ott ks ds, _, ⟨a, vs, e, m, h, r⟩ => ⟨a, vs, e, m, x.1 _ _ (nb a m) h rfl, r.mono (x.1.hide O)⟩
  | .gho a ds, _, ⟨vs, m, h, r⟩ => ⟨vs, m, x.1 _ _ (nb a m) h rfl, r.mono (x.1.hide O)⟩
theorem Rst.hx (R : Rst K b H0 σd σ H O) (x : Ext b H H') : Ext b (hide O H) (hide O H') := x.hide fun a m => ⟨(R.nb a m).1, (R.nb a m).2.2⟩
theorem Rst.mono (R : Rst K b H0 σd σ H O) (x : Ext b H H') : Rst K b H0 σd σ H' O where
  len := R.len
  slot := fun i => (R.slot i).mono x fun a m => (R.nb a m).1
  uniq := R.uniq
  nb := fun a m => ⟨(R.nb a m).1, (R.nb a m).2.1, by
    obtain ⟨o, e, q⟩ := (R.nb a m).2.2
    refine ⟨o, x.1 a o (R.nb a m).1 e (by cases o <;> first | rfl | exact q.elim), ?_⟩
    cases o <;> first | exact q | (obtain ⟨q1, C, fs, q2⟩ := q; exact ⟨q1, C, fs, x.1 _ _ (R.nb _ q1).1 q2 rfl⟩)⟩
  le := R.le.trans (R.hx x)
  bg := R.bg.ext (R.hx x)
theorem Rst.free (R : Rst K b H0 σd σ H O) {p : Addr} (h : H p = none) : p ∉ O ∧ some p ≠ b := ⟨fun m => (R.nb p m).2.2.ne h, R.bg.ne (by unfold DL.hide; split; rfl; exact h)⟩
end
end DL
/-! DB -/
set_option Elab.async false
set_option linter.all false
set_option maxRecDepth 100000
set_option maxHeartbeats 4000000
/-! The judgements: an expression of the program, read as data. -/
namespace DL
open PySem PySem.Spec PyProof.Rows L2
variable [TabC]
abbrev GE := StD → (D → Prop) → Prop
abbrev GA := StD → (List D → Prop) → Prop
abbrev GT := StD → (Bool → Prop) → Prop
def Mn {α : Type} (g : StD → (α → Prop) → Prop) : Prop := ∀ σ k k', (∀ d, k d → k' d) → g σ k → g σ k'
section
variable (K : Fg) (b : Option Addr) (H0 : Hp)
/-- strong: what is read stands apart from the frame's own lists; weak: it stands in the heap -/
def LE (g : GE) : TE := fun σ H Q => ∃ σd O, Rst K b H0 σd σ H O ∧ g σd fun d => ∀ v H', Ext b H H' → Rep K b (hide O H') d v → Q v H'
def LT (g : GE) : TE := fun σ H Q => ∃ σd O, Rst K b H0 σd σ H O ∧ g σd fun d => ∀ v H', Ext b H H' → Rep K b H' d v → Q v H'
def LA (g : GA) : TA := fun σ H Q => ∃ σd O, Rst K b H0 σd σ H O ∧ g σd fun ds => ∀ vs H', Ext b H H' → Reps K b (hide O H') ds vs → Q vs H'
def LB (g : GT) : TT := fun σ H Q => ∃ σd O, Rst K b H0 σd σ H O ∧ g σd fun c => ∀ H', Ext b H H' → Q c H'
end
structure DE (b : Option Addr) (H0 : Hp) (X : Cx) (e : Expr) (g : GE) : Prop where
  pe : PE X e (LE X.K b H0 g)
  mn : Mn g
structure DT (b : Option Addr) (H0 : Hp) (X : Cx) (e : Expr) (g : GE) : Prop where
  pe : PE X e (LT X.K b H0 g)
  mn : Mn g
structure DAr (b : Option Addr) (H0 : Hp) (X : Cx) (es : List Expr) (g : GA) : Prop where
  pa : PA X es (LA X.K b H0 g)
  mn : Mn g
structure DB (b : Option Addr) (H0 : Hp) (X : Cx) (e : Expr) (g : GT) : Prop where
  pt : PT X e (LB X.K b H0 g)
  mn : Mn g
structure DW (b : Option Addr) (H0 : Hp) (X : Cx) (e : Expr) (g : GT) : Prop where
  pw : PW X e (LB X.K b H0 g)
  mn : Mn g
section
variable {X : Cx} {b : Option Addr} {H0 : Hp}
theorem pe_imp {e : Expr} {t t' : TE} (h : PE X e t) (i : ∀ σ H Q, t' σ H Q → t σ H Q) : PE X e t' := ⟨fun pins s σ H Q I q => h.run pins s σ H Q I (i σ H Q q)⟩
theorem pt_imp {e : Expr} {t t' : TT} (h : PT X e t) (i : ∀ σ H Q, t' σ H Q → t σ H Q) : PT X e t' := ⟨fun pins s σ H Q I q => h.run pins s σ H Q I (i σ H Q q)⟩
theorem pw_imp {e : Expr} {t t' : TT} (h : PW X e t) (i : ∀ σ H Q, t' σ H Q → t σ H Q) : PW X e t' := ⟨fun wh pins s σ H Q I q => h.run wh pins s σ H Q I (i σ H Q q)⟩
theorem pa_imp {e : List Expr} {t t' : TA} (h : PA X e t) (i : ∀ σ H Q, t' σ H Q → t σ H Q) : PA X e t' := ⟨fun pos pins s σ H Q I q => h.run pos pins s σ H Q I (i σ H Q q)⟩
theorem DE.dt {e : Expr} {g : GE} (h : DE b H0 X e g) : DT b H0 X e g := ⟨pe_imp h.pe fun σ H Q ⟨σd, O, R, q⟩ => ⟨σd, O, R, h.mn _ _ _ (fun d k v H' x r => k v H' x (r.mono hide_le)) q⟩, h.mn⟩
/-- one of two readings -/
theorem DE.or {e : Expr} {g1 g2 : GE} (h1 : DE b H0 X e g1) (h2 : DE b H0 X e g2) : DE b H0 X e (fun σ k => g1 σ k ∨ g2 σ k) := ⟨⟨fun pins s σ H Q I ⟨σd, O, R, q⟩ => by
  rcases q with q | q
  · exact h1.pe.run pins s σ H Q I ⟨σd, O, R, q⟩
  · exact h2.pe.run pins s σ H Q I ⟨σd, O, R, q⟩⟩, fun σ k k' i q => q.imp (h1.mn σ k k' i) (h2.mn σ k k' i)⟩
theorem DE.imp {e : Expr} {g g' : GE} (h : DE b H0 X e g) (i : ∀ σ k, g' σ k → g σ k) (m : Mn g') : DE b H0 X e g' := ⟨pe_imp h.pe fun σ H Q ⟨σd, O, R, q⟩ => ⟨σd, O, R, i _ _ q⟩, m⟩
/-! ### names, constants -/
def gVar (i : Nat) : GE := fun σ k => match look σ i with | .sh d => k d | _ => False
def gVarT (i : Nat) : GE := fun σ k => match look σ i with | .sh d => k d | .own ds => k (.lst ds) | .obj _ _ c ns ds => k (.ins c ns ds) | .owd _ _ => False | .ott _ _ => False | .gho _ _ => False | .unset => False
def gC (d : D) : GE := fun _ k => k d
theorem gVar_mn (i : Nat) : Mn (gVar i) := fun σ k k' h q => by
  unfold gVar at q ⊢
  cases e : look σ i <;> rw [e] at q <;> first | exact h _ q | exact q.elim
theorem getD_some {σ : L2.St} {i : Nat} {v : V} (h : σ.getD i none = some v) : σ[i]? = some (some v) := by
  rw [List.getD_eq_getElem?_getD] at h
  cases e : σ[i]? with
  | none => rw [e] at h; cases h
  | some x => rw [e] at h; simp at h; rw [h]
theorem de_var (i : Nat) {x : Str} {pos : Pos} (hN : X.N[i]? = some x := by rfl) (hv : Vis X.env.scope x := by first | exact Or.inl rfl | exact Or.inr (Or.inl rfl) | exact Or.inr (Or.inr rfl)) (hd : (x == ("__debug__" : Str)) = false := by decide)
    (hcd : (x == ("__classdict__" : Str)) = false := by decide) : DE b H0 X (.Name x pos) (gVar i) := ⟨pe_imp (pe_var hN hv hd hcd) fun σ H Q ⟨σd, O, R, q⟩ => by
  have s := R.slot i
  unfold gVar at q
  cases e : look σd i with
  | sh d =>
    rw [e] at q s
    obtain ⟨v, e1, r⟩ := s
    exact ⟨v, getD_some e1, q v H (.refl H) r⟩
  | unset => rw [e] at q; exact q.elim
  | own ds => rw [e] at q; exact q.elim
  | gho a ds => rw [e] at q; exact q.elim
  | owd ks ds => rw [e] at q; exact q.elim
  | ott ks ds => rw [e] at q; exact q.elim
  | obj a dx c ns ds => rw [e] at q; exact q.elim, gVar_mn i⟩
theorem de_c {e : Expr} {d : D} {v : V} (h : PE X e (tC v)) (r : ∀ K H, Rep K b H d v) : DE b H0 X e (gC d) := ⟨pe_imp h fun σ H Q ⟨σd, O, R, q⟩ => q v H (.refl H) (r _ _), fun σ k k' h q => h _ q⟩
theorem de_int {i j pos} : DE b H0 X (.Constant (.int i) j pos) (gC (.int i)) := de_c pe_int fun _ _ => rfl
theorem de_bl {i j pos} : DE b H0 X (.Constant (.bool i) j pos) (gC (.bl i)) := de_c pe_bl fun _ _ => rfl
theorem de_non {j pos} : DE b H0 X (.Constant .none j pos) (gC .non) := de_c pe_non fun _ _ => rfl
theorem de_str {x j pos} : DE b H0 X (.Constant (.str x) j pos) (gC (.str x)) := de_c pe_str fun _ _ => rfl
/-! ### two operands, one -/
/-- what a two-place rule on values does, as data -/
structure Op2 (K : Fg) (b : Option Addr) (r : R2) (rd : D → D → (D → Prop) → Prop) : Prop where
  mn : ∀ x y (k k' : D → Prop), (∀ d, k d → k' d) → rd x y k → rd x y k'
  ok : ∀ (O : List Addr) (H : Hp) (dx dy : D) (x y : V) (Q : VK), (∀ p, H p = none → p ∉ O ∧ some p ≠ b) → Rep K b H dx x → Rep K b H dy y → rd dx dy (fun d => ∀ v H', Ext b H H' → Rep K b (hide O H') d v → Q v H') → r x y H Q
structure Op1 (K : Fg) (b : Option Addr) (r : V → Hp → VK → Prop) (rd : D → (D → Prop) → Prop) : Prop where
  mn : ∀ x (k k' : D → Prop), (∀ d, k d → k' d) → rd x k → rd x k'
  ok : ∀ (O : List Addr) (H : Hp) (dx : D) (x : V) (Q : VK), (∀ p, H p = none → p ∉ O ∧ some p ≠ b) → Rep K b H dx x → rd dx (fun d => ∀ v H', Ext b H H' → Rep K b (hide O H') d v → Q v H') → r x H Q
/-- the result leans on what was handed in: strong operands, a strong result -/
structure Op2S (K : Fg) (b : Option Addr) (r : R2) (rd : D → D → (D → Prop) → Prop) : Prop where
  mn : ∀ x y (k k' : D → Prop), (∀ d, k d → k' d) → rd x y k → rd x y k'
  ok : ∀ (O : List Addr) (H : Hp) (dx dy : D) (x y : V) (Q : VK), (∀ p, H p = none → p ∉ O ∧ some p ≠ b) → Rep K b (hide O H) dx x → Rep K b (hide O H) dy y → rd dx dy (fun d => ∀ v H', Ext b H H' → Rep K b (hide O H') d v → Q v H') → r x y H Q
def g2 (rd : D → D → (D → Prop) → Prop) (ga gb : GE) : GE := fun σ k => ga σ fun x => gb σ fun y => rd x y k
def g1 (rd : D → (D → Prop) → Prop) (ga : GE) : GE := fun σ k => ga σ fun x => rd x k
theorem g2_mn {rd : D → D → (D → Prop) → Prop} {ga gb : GE} (h : ∀ x y (k k' : D → Prop), (∀ d, k d → k' d) → rd x y k → rd x y k') (A : Mn ga) (B : Mn gb) : Mn (g2 rd ga gb) := fun σ k k' i q => A _ _ _ (fun x hx => B _ _ _ (fun y hy => h x y k k' i hy) hx) q
theorem g1_mn {rd : D → (D → Prop) → Prop} {ga : GE} (h : ∀ x (k k' : D → Prop), (∀ d, k d → k' d) → rd x k → rd x k') (A : Mn ga) : Mn (g1 rd ga) := fun σ k k' i q => A _ _ _ (fun x hx => h x k k' i hx) q
theorem Op2.imp {K : Fg} {r : R2} {rd rd' : D → D → (D → Prop) → Prop} (o : Op2 K b r rd) (i : ∀ x y k, rd' x y k → rd x y k) (m : ∀ x y (k k' : D → Prop), (∀ d, k d → k' d) → rd' x y k → rd' x y k') : Op2 K b r rd' := ⟨m, fun O H dx dy x y Q n r1 r2 q => o.ok O H dx dy x y Q n r1 r2 (i _ _ _ q)⟩
theorem bin_ok {r : R2} {rd : D → D → (D → Prop) → Prop} {ga gb : GE} (o : Op2 X.K b r rd) (ma : Mn ga) (mb : Mn gb) (σ : L2.St) (H : Hp) (Q : VK) (h : LE X.K b H0 (g2 rd ga gb) σ H Q) : tOp r (LT X.K b H0 ga) (LT X.K b H0 gb) σ H Q := by
  obtain ⟨σd, O, R, q⟩ := h
  refine ⟨σd, O, R, ma _ _ _ (fun x hx v1 H1 x1 r1 => ?_) q⟩
  refine ⟨σd, O, R.mono x1, mb _ _ _ (fun y hy v2 H2 x2 r2 => ?_) hx⟩
  exact o.ok O H2 x y v1 v2 Q (fun p hp => (R.mono (x1.trans x2)).free hp) (r1.mono x2.1) r2 (o.mn _ _ _ _ (fun d kd v H' x3 r3 => kd v H' (x1.trans (x2.trans x3)) r3) hy)
theorem binS_ok {r : R2} {rd : D → D → (D → Prop) → Prop} {ga gb : GE} (o : Op2S X.K b r rd) (ma : Mn ga) (mb : Mn gb) (σ : L2.St) (H : Hp) (Q : VK) (h : LE X.K b H0 (g2 rd ga gb) σ H Q) : tOp r (LE X.K b H0 ga) (LE X.K b H0 gb) σ H Q := by
  obtain ⟨σd, O, R, q⟩ := h
  refine ⟨σd, O, R, ma _ _ _ (fun x hx v1 H1 x1 r1 => ?_) q⟩
  refine ⟨σd, O, R.mono x1, mb _ _ _ (fun y hy v2 H2 x2 r2 => ?_) hx⟩
  exact o.ok O H2 x y v1 v2 Q (fun p hp => (R.mono (x1.trans x2)).free hp) (r1.mono (x2.1.hide O)) r2 (o.mn _ _ _ _ (fun d kd v H' x3 r3 => kd v H' (x1.trans (x2.trans x3)) r3) hy)
theorem un_ok {r : V → Hp → VK → Prop} {rd : D → (D → Prop) → Prop} {ga : GE} (o : Op1 X.K b r rd) (ma : Mn ga) (σ : L2.St) (H : Hp) (Q : VK) (h : LE X.K b H0 (g1 rd ga) σ H Q) : tUn r (LT X.K b H0 ga) σ H Q := by
  obtain ⟨σd, O, R, q⟩ := h
  refine ⟨σd, O, R, ma _ _ _ (fun x hx v1 H1 x1 r1 => ?_) q⟩
  exact o.ok O H1 x v1 Q (fun p hp => (R.mono x1).free hp) r1 (o.mn _ _ _ (fun d kd v H' x3 r3 => kd v H' (x1.trans x3) r3) hx)
section
variable {a c : Expr} {ga gb : GE} {pos : Pos}
theorem de_op {op : Operator} {r : R2} {rd : D → D → (D → Prop) → Prop} (ho : OpR X (binaryOp op) r) (o : Op2 X.K b r rd) (A : DT b H0 X a ga) (B : DT b H0 X c gb) : DE b H0 X (.BinOp a op c pos) (g2 rd ga gb) :=
  ⟨pe_imp (pe_op ho A.pe B.pe) fun σ H Q h => bin_ok o A.mn B.mn σ H Q h, g2_mn o.mn A.mn B.mn⟩
theorem de_opS {op : Operator} {r : R2} {rd : D → D → (D → Prop) → Prop} (ho : OpR X (binaryOp op) r) (o : Op2S X.K b r rd) (A : DE b H0 X a ga) (B : DE b H0 X c gb) : DE b H0 X (.BinOp a op c pos) (g2 rd ga gb) :=
  ⟨pe_imp (pe_op ho A.pe B.pe) fun σ H Q h => binS_ok o A.mn B.mn σ H Q h, g2_mn o.mn A.mn B.mn⟩
theorem de_un {op : UnaryOp} {r : V → Hp → VK → Prop} {rd : D → (D → Prop) → Prop} (ho : UnR X (unaryOp op) r) (o : Op1 X.K b r rd) (A : DT b H0 X a ga) : DE b H0 X (.UnaryOp op a pos) (g1 rd ga) :=
  ⟨pe_imp (pe_un ho A.pe) fun σ H Q h => un_ok o A.mn σ H Q h, g1_mn o.mn A.mn⟩
theorem de_cmp {op : CmpOp} {r : R2} {rd : D → D → (D → Prop) → Prop} (ho : OpR X (compareOp op) r) (o : Op2 X.K b r rd) (A : DT b H0 X a ga) (B : DT b H0 X c gb) (hm : behindInMarks op c = false := by first | exact nomark _ (by decide) (by decide) | rfl) : DE b H0 X (.Compare a [op] [c] pos) (g2 rd ga gb) :=
  ⟨pe_imp (pe_cmpR ho A.pe B.pe hm) fun σ H Q h => bin_ok o A.mn B.mn σ H Q h, g2_mn o.mn A.mn B.mn⟩
/-- a value that is a bool, as a test -/
def gB (g : GE) : GT := fun σ k => g σ fun d => match d with | .bl c => k c | _ => False
theorem gB_mn {g : GE} (h : Mn g) : Mn (gB g) := fun σ k k' i q => h _ _ _ (fun d hd => by cases d <;> first | exact i _ hd | exact hd.elim) q
theorem lb_of {g : GE} (m : Mn g) {σ : L2.St} {H : Hp} {Q : Bool → Hp → Prop} (h : LB X.K b H0 (gB g) σ H Q) : LT X.K b H0 g σ H fun x H' => ∃ k, x = .bl k ∧ Q k H' := by
  obtain ⟨σd, O, R, q⟩ := h
  refine ⟨σd, O, R, m _ _ _ (fun d hd v H' x r => ?_) q⟩
  cases d <;> first | exact ⟨_, r, hd H' x⟩ | exact hd.elim
theorem db_cmp {op : CmpOp} {r : R2} {rd : D → D → (D → Prop) → Prop} (ho : OpR X (compareOp op) r) (o : Op2 X.K b r rd) (A : DT b H0 X a ga) (B : DT b H0 X c gb) (hm : behindInMarks op c = false := by first | exact nomark _ (by decide) (by decide) | rfl) : DB b H0 X (.Compare a [op] [c] pos) (gB (g2 rd ga gb)) := by
  refine ⟨pt_imp (pt_cmpR ho A.pe B.pe hm) fun σ H Q h => ?_, gB_mn (g2_mn o.mn A.mn B.mn)⟩
  obtain ⟨σd, O, R, q⟩ := h
  refine bin_ok (H0 := H0) o A.mn B.mn σ H _ ⟨σd, O, R, g2_mn o.mn A.mn B.mn _ _ _ (fun d hd v H' x r => ?_) q⟩
  cases d <;> first | exact ⟨_, r, hd H' x⟩ | exact hd.elim
theorem db_val {e : Expr} {g : GE} (h : DT b H0 X e g) (he : ∀ whole, isTrue e X.env whole = (do let v ← whole; standAt e.pos; holding [v] (truthy v)) := by intro _; rfl) : DB b H0 X e (gB g) :=
  ⟨pt_imp (pt_val h.pe he) fun σ H Q q => lb_of h.mn q, gB_mn h.mn⟩
end
/-! ### and, or, not, if -/
section
variable {a c e : Expr} {rest : List Expr} {ga gb : GE} {t u : GT} {pos : Pos}
def gAnd (t u : GT) : GT := fun σ k => t σ fun x => match x with | true => u σ k | false => k false
def gOr (t u : GT) : GT := fun σ k => t σ fun x => match x with | true => k true | false => u σ k
def gNot (t : GT) : GT := fun σ k => t σ fun x => k (!x)
theorem gOr_mn (A : Mn t) (B : Mn u) : Mn (gOr t u) := fun σ k k' i q => A _ _ _ (fun x hx => by cases x; exact B _ _ _ i hx; exact i _ hx) q
theorem DW.db (h : DW b H0 X e t) : DB b H0 X e t := ⟨h.pw.pt, h.mn⟩
theorem dw_or1 (h : DB b H0 X a t) : DW b H0 X (.BoolOp .Or [a] pos) t := ⟨pw_or1 h.pt, h.mn⟩
theorem dw_or (A : DB b H0 X a t) (B : DW b H0 X (.BoolOp .Or (c :: rest) pos) u) : DW b H0 X (.BoolOp .Or (a :: c :: rest) pos) (gOr t u) := by
  refine ⟨pw_imp (pw_or A.pt B.pw) fun σ H Q ⟨σd, O, R, q⟩ => ?_, gOr_mn A.mn B.mn⟩
  refine ⟨σd, O, R, A.mn _ _ _ (fun x hx H' x1 => ?_) q⟩
  cases x with
  | true => exact hx H' x1
  | false => exact ⟨σd, O, R.mono x1, B.mn _ _ _ (fun y hy H2 x2 => hy H2 (x1.trans x2)) hx⟩
theorem db_not (A : DB b H0 X a t) : DB b H0 X (.UnaryOp .Not a pos) (gNot t) :=
  ⟨pt_imp (pt_not A.pt) fun σ H Q ⟨σd, O, R, q⟩ => ⟨σd, O, R, A.mn _ _ _ (fun x hx H' x1 => hx H' x1) q⟩, fun σ k k' i q => A.mn _ _ _ (fun x hx => i _ hx) q⟩
/-- as values (bools) -/
def gAndV (ga gb : GE) : GE := fun σ k => ga σ fun x => match x with | .bl true => gb σ k | .bl false => k (.bl false) | _ => False
def gOrV (ga gb : GE) : GE := fun σ k => ga σ fun x => match x with | .bl true => k (.bl true) | .bl false => gb σ k | _ => False
def gNotV (ga : GE) : GE := fun σ k => ga σ fun x => match x with | .bl c => k (.bl (!c)) | _ => False
theorem de_one {op} (h : DE b H0 X a ga) : DE b H0 X (.BoolOp op [a] pos) ga := ⟨pe_one h.pe, h.mn⟩
theorem de_and (A : DT b H0 X a ga) (B : DE b H0 X (.BoolOp .And (c :: rest) pos) gb) : DE b H0 X (.BoolOp .And (a :: c :: rest) pos) (gAndV ga gb) := by
  refine ⟨pe_imp (pe_and A.pe B.pe) fun σ H Q ⟨σd, O, R, q⟩ => ?_, fun σ k k' i q => A.mn _ _ _ (fun x hx => ?_) q⟩
  · refine ⟨σd, O, R, A.mn _ _ _ (fun x hx v H' x1 r => ?_) q⟩
    cases x with
    | bl z =>
      cases z with
      | true => exact ⟨true, r, ⟨σd, O, R.mono x1, B.mn _ _ _ (fun y hy v2 H2 x2 r2 => hy v2 H2 (x1.trans x2) r2) hx⟩⟩
      | false => exact ⟨false, r, hx (.bl false) H' x1 rfl⟩
    | _ => exact hx.elim
  · cases x with
    | bl z => cases z; exact i _ hx; exact B.mn _ _ _ i hx
    | _ => exact hx.elim
def gIf (t : GT) (ga gb : GE) : GE := fun σ k => t σ fun x => match x with | true => ga σ k | false => gb σ k
theorem gIf_mn (T : Mn t) (A : Mn ga) (B : Mn gb) : Mn (gIf t ga gb) := fun σ k k' i q => T _ _ _ (fun x hx => by cases x; exact B _ _ _ i hx; exact A _ _ _ i hx) q
theorem de_if (T : DB b H0 X e t) (A : DE b H0 X a ga) (B : DE b H0 X c gb) : DE b H0 X (.IfExp e a c pos) (gIf t ga gb) := by
  refine ⟨pe_imp (pe_ifExp T.pt A.pe B.pe) fun σ H Q ⟨σd, O, R, q⟩ => ?_, gIf_mn T.mn A.mn B.mn⟩
  refine ⟨σd, O, R, T.mn _ _ _ (fun x hx H' x1 => ?_) q⟩
  cases x with
  | true => exact ⟨σd, O, R.mono x1, A.mn _ _ _ (fun y hy v2 H2 x2 r2 => hy v2 H2 (x1.trans x2) r2) hx⟩
  | false => exact ⟨σd, O, R.mono x1, B.mn _ _ _ (fun y hy v2 H2 x2 r2 => hy v2 H2 (x1.trans x2) r2) hx⟩
end
/-! ### arguments, displays -/
section
variable {e : Expr} {es : List Expr} {ge : GE} {g : GA} {pos : Pos}
def gNil : GA := fun _ k => k []
def gCons (ge : GE) (g : GA) : GA := fun σ k => ge σ fun d => g σ fun ds => k (d :: ds)
theorem gCons_mn (A : Mn ge) (B : Mn g) : Mn (gCons ge g) := fun σ k k' i q => A _ _ _ (fun x hx => B _ _ _ (fun y hy => i _ hy) hx) q
theorem da_nil : DAr b H0 X [] gNil := ⟨pa_imp pa_nil fun σ H Q ⟨σd, O, R, q⟩ => q [] H (.refl H) Reps.nil, fun σ k k' i q => i _ q⟩
theorem da_cons (A : DE b H0 X e ge) (B : DAr b H0 X es g) (hs : starEach (e :: es) X.env = (false, eval e X.env) :: starEach es X.env := by rfl) : DAr b H0 X (e :: es) (gCons ge g) := by
  refine ⟨pa_imp (pa_cons A.pe B.pa hs) fun σ H Q ⟨σd, O, R, q⟩ => ?_, gCons_mn A.mn B.mn⟩
  refine ⟨σd, O, R, A.mn _ _ _ (fun x hx v H1 x1 r1 => ?_) q⟩
  exact ⟨σd, O, R.mono x1, B.mn _ _ _ (fun y hy vs H2 x2 r2 => hy (v :: vs) H2 (x1.trans x2) (Reps.cons (r1.mono (x2.1.hide O)) r2)) hx⟩
/-- a display of at most so many items that the line holds them -/
def gTup (g : GA) : GE := fun σ k => g σ fun ds => ds.length ≤ 1000 ∧ k (.tup ds)
def gLst (g : GA) : GE := fun σ k => g σ fun ds => ds.length ≤ 1000 ∧ k (.lst ds)
theorem le_line {n : Nat} (h : n ≤ 1000) : n ≤ sizeLine := Nat.le_trans h (by decide)
theorem de_tup {x1} (A : DAr b H0 X es g) : DE b H0 X (.Tuple es x1 pos) (gTup g) := by
  refine ⟨pe_imp (pe_tup A.pa) fun σ H Q ⟨σd, O, R, q⟩ => ?_, fun σ k k' i q => A.mn _ _ _ (fun x hx => ⟨hx.1, i _ hx.2⟩) q⟩
  refine ⟨σd, O, R, A.mn _ _ _ (fun ds hd vs H1 x1 r1 => ?_) q⟩
  refine ⟨by rw [← r1.length]; exact le_line hd.1, fun p hp => ?_⟩
  obtain ⟨n1, n2⟩ := (R.mono x1).free hp
  refine hd.2 _ _ (x1.trans (.new hp)) ?_
  rw [hide_new n1]
  exact Rep.mkTup n2 (.inl (.inl upd_same)) (r1.mono (Le.new (hide_out n1 ▸ hp)))
theorem de_lst (A : DAr b H0 X es g) : DE b H0 X (.List es pos) (gLst g) := by
  refine ⟨pe_imp (pe_lst A.pa) fun σ H Q ⟨σd, O, R, q⟩ => ?_, fun σ k k' i q => A.mn _ _ _ (fun x hx => ⟨hx.1, i _ hx.2⟩) q⟩
  refine ⟨σd, O, R, A.mn _ _ _ (fun ds hd vs H1 x1 r1 => ?_) q⟩
  refine ⟨by rw [← r1.length]; exact le_line hd.1, fun p hp => ?_⟩
  obtain ⟨n1, n2⟩ := (R.mono x1).free hp
  refine hd.2 _ _ (x1.trans (.new hp)) ?_
  rw [hide_new n1]
  exact Rep.mkLst n2 (.inl (.inl upd_same)) (r1.mono (Le.new (hide_out n1 ▸ hp)))
end
end
end DL
/-! DC -/
set_option Elab.async false
set_option linter.all false
set_option maxRecDepth 100000
set_option maxHeartbeats 4000000
/-! Operations on data. -/
namespace DL
open PySem PySem.Spec PyProof.Rows L2
variable [TabC]
abbrev Fresh (b : Option Addr) (O : List Addr) (H : Hp) : Prop := ∀ p, H p = none → p ∉ O ∧ some p ≠ b
/-! ### ints -/
def dI (C : Int → Int → Prop) (f : Int → Int → D) : D → D → (D → Prop) → Prop := fun x y k => match x, y with | .int i, .int j => C i j ∧ k (f i j) | _, _ => False
def dI0 (f : Int → Int → D) : D → D → (D → Prop) → Prop := fun x y k => match x, y with | .int i, .int j => k (f i j) | _, _ => False
section
variable {K : Fg} {b : Option Addr}
theorem op2I {C : Int → Int → Prop} {f : Int → Int → V} {fd : Int → Int → D} (h : ∀ H i j, Rep K b H (fd i j) (f i j)) : Op2 K b (rI C f) (dI C fd) := by
  refine ⟨fun x y k k' i q => ?_, fun O H dx dy x y Q _ r1 r2 q => ?_⟩
  · cases x <;> cases y <;> first | exact ⟨q.1, i _ q.2⟩ | exact q.elim
  · cases dx <;> cases dy <;> first | exact ⟨_, _, r1.int, r2.int, q.1, q.2 _ H (.refl H) (h _ _ _)⟩ | exact q.elim
theorem op2I0 {f : Int → Int → V} {fd : Int → Int → D} (h : ∀ H i j, Rep K b H (fd i j) (f i j)) : Op2 K b (rI0 f) (dI0 fd) := by
  refine ⟨fun x y k k' i q => ?_, fun O H dx dy x y Q _ r1 r2 q => ?_⟩
  · cases x <;> cases y <;> first | exact i _ q | exact q.elim
  · cases dx <;> cases dy <;> first | exact ⟨_, _, r1.int, r2.int, q _ H (.refl H) (h _ _ _)⟩ | exact q.elim
end
def MulOk (i j : Int) : Prop := IntMulOk i j
def Sz (n : Nat) (i : Int) : Prop := i.natAbs < 2 ^ n
theorem MulOk.of {i j : Int} {m n : Nat} (hi : Sz m i) (hj : Sz n j) (h : m + n ≤ 900000) : MulOk i j := by
  refine CMulW.ok (wide_mul (a := m + 1) (b := n + 1) (Nat.lt_of_lt_of_le hi (Nat.pow_le_pow_right (by decide) (by omega))) (Nat.lt_of_lt_of_le hj (Nat.pow_le_pow_right (by decide) (by omega))) (by omega) (by omega) (by omega))
theorem MulOk.left {i j : Int} (h : -(2 ^ 64) < i ∧ i < 2 ^ 64) : MulOk i j := CMul.ok (.inl h)
theorem MulOk.right {i j : Int} (h : -(2 ^ 64) < j ∧ j < 2 ^ 64) : MulOk i j := CMul.ok (.inr h)
def DivOk (j : Int) : Prop := j ≠ 0 ∧ j.natAbs.log2 < 9000
theorem DivOk.of {j : Int} {n : Nat} (h : j ≠ 0) (hj : Sz n j) (hn : n ≤ 8000) : DivOk j := ⟨h, Nat.lt_of_lt_of_le (PySem.Flt.log2_lt_of (k := n + 1) (by omega) (Nat.lt_of_lt_of_le hj (Nat.pow_le_pow_right (by decide) (by omega)))) (by omega)⟩
abbrev dPow := dI CPow fun i j => .int (i ^ j.toNat)
abbrev dLt := dI0 fun i j => .bl (decide (i < j))
abbrev dGe := dI0 fun i j => .bl (decide (j ≤ i))
section
variable {X : Cx} {b : Option Addr} {H0 : Hp} {a c : Expr} {ga gb : GE} {pos : Pos}
theorem op_mulOk : OpR X (binaryOp .Mult) (rI MulOk fun i j => .int (i * j)) := opI fun _ _ _ _ _ _ _ hc q => mul_int q hc
theorem op_divOk : OpR X (binaryOp .FloorDiv) (rI (fun _ j => DivOk j) fun i j => .int (i.fdiv j)) := opI fun i j _ _ _ _ _ hc q => floordiv_int hc.1 q (.inl (PyProof.noPylong_of_log2 hc.2))
theorem de_pow (A : DT b H0 X a ga) (B : DT b H0 X c gb) : DE b H0 X (.BinOp a .Pow c pos) (g2 dPow ga gb) := de_op op_pow (op2I fun _ _ _ => rfl) A B
def dNeg : D → (D → Prop) → Prop := fun x k => match x with | .int i => k (.int (-i)) | _ => False
theorem op1_neg : Op1 X.K b (rU fun i => .int (-i)) dNeg := by
  refine ⟨fun x k k' i q => ?_, fun O H dx x Q _ r q => ?_⟩
  · cases x <;> first | exact i _ q | exact q.elim
  · cases dx <;> first | exact ⟨_, r.int, q _ H (.refl H) rfl⟩ | exact q.elim
theorem de_neg (A : DT b H0 X a ga) : DE b H0 X (.UnaryOp .USub a pos) (g1 dNeg ga) := de_un un_neg op1_neg A
theorem db_lt (A : DT b H0 X a ga) (B : DT b H0 X c gb) : DB b H0 X (.Compare a [.Lt] [c] pos) (gB (g2 dLt ga gb)) := db_cmp op_lt (op2I0 fun _ _ _ => rfl) A B
theorem de_lt (A : DT b H0 X a ga) (B : DT b H0 X c gb) : DE b H0 X (.Compare a [.Lt] [c] pos) (g2 dLt ga gb) := de_cmp op_lt (op2I0 fun _ _ _ => rfl) A B
theorem de_ge (A : DT b H0 X a ga) (B : DT b H0 X c gb) : DE b H0 X (.Compare a [.GtE] [c] pos) (g2 dGe ga gb) := de_cmp op_ge (op2I0 fun _ _ _ => rfl) A B
end
/-! ### == of scalars, and of data at any depth -/
mutual
def toPy : D → Option PyData
  | .non => some .none
  | .bl b => some (.bool b)
  | .int i => some (.int i)
  | .str x => some (.str x)
  | .tup ds => (toPys ds).map .tuple
  | .lst ds => (toPys ds).map .list
  | .dic _ _ => none
  | .ins _ _ _ => none
  | .bag => none
  | .clo _ => none
  | .frl _ _ => none
  | .frd _ _ => none
  | .exc _ _ _ => none
  | .cel _ => none
def toPys : List D → Option (List PyData)
  | [] => some []
  | d :: r => match toPy d, toPys r with
    | some p, some q => some (p :: q)
    | _, _ => none
end
section
variable {K : Fg} {b : Option Addr} {H : Hp}
mutual
theorem Rep.dp : ∀ {d : D} {v : V} {p : PyData}, Rep K b H d v → toPy d = some p → Dp K H v p
  | .non, _, _, h, e => by simp only [toPy, Option.some.injEq] at e; subst e; rw [h.non]; exact .non
  | .bl _, _, _, h, e => by simp only [toPy, Option.some.injEq] at e; subst e; rw [h.bl]; exact .bl _
  | .int _, _, _, h, e => by simp only [toPy, Option.some.injEq] at e; subst e; rw [h.int]; exact .int _
  | .str _, _, _, h, e => by simp only [toPy, Option.some.injEq] at e; subst e; rw [h.str]; exact .str _
  | .tup ds, _, _, h, e => by
    obtain ⟨a, vs, rfl, _, hs, r⟩ := h.tup
    simp only [toPy] at e
    cases q : toPys ds with
    | none => rw [q] at e; cases e
    | some ps => rw [q] at e; cases e; exact .tup hs (Reps.dp r q)
  | .lst ds, _, _, h, e => by
    obtain ⟨a, vs, rfl, _, hs, r⟩ := h.lst
    simp only [toPy] at e
    cases q : toPys ds with
    | none => rw [q] at e; cases e
    | some ps => rw [q] at e; cases e; exact .lst hs (Reps.dp r q)
  | .dic _ _, _, _, _, e => by simp only [toPy] at e; cases e
  | .ins _ _ _, _, _, _, e => by simp only [toPy] at e; cases e
  | .bag, _, _, _, e => by simp only [toPy] at e; cases e
  | .clo _, _, _, _, e => by simp only [toPy] at e; cases e
  | .frl _ _, _, _, _, e => by simp only [toPy] at e; cases e
  | .frd _ _, _, _, _, e => by simp only [toPy] at e; cases e
  | .exc _ _ _, _, _, _, e => by simp only [toPy] at e; cases e
  | .cel _, _, _, _, e => by simp only [toPy] at e; cases e
theorem Reps.dp : ∀ {ds : List D} {vs : List V} {ps : List PyData}, Reps K b H ds vs → toPys ds = some ps → DpAll K H vs ps
  | [], _, _, h, e => by simp only [toPys, Option.some.injEq] at e; subst e; rw [h.of_nil]; exact .nil
  | d :: r, vs, ps, h, e => by
    obtain ⟨v, q, rfl, h1, h2⟩ := h.of_cons
    simp only [toPys] at e
    cases e1 : toPy d with
    | none => rw [e1] at e; cases e
    | some p =>
      cases e2 : toPys r with
      | none => rw [e1, e2] at e; cases e
      | some qs => rw [e1, e2] at e; cases e; exact .cons (Rep.dp h1 e1) (Reps.dp h2 e2)
end
end
def dEq (neg : Bool) : D → D → (D → Prop) → Prop := fun x y k => match toPy x, toPy y with
  | some p, some q => SeqAt.shaped p = true ∧ SeqAt.shaped q = true ∧ k (.bl (if neg then !PyData.eqv p q else PyData.eqv p q))
  | _, _ => False
section
variable {X : Cx} {b : Option Addr} {H0 : Hp} {a c : Expr} {ga gb : GE} {pos : Pos}
theorem op2_eq : Op2 X.K b (rEqD X.K) (dEq false) := by
  refine ⟨fun x y k k' i q => ?_, fun O H dx dy x y Q _ r1 r2 q => ?_⟩
  · unfold dEq at q ⊢
    cases e1 : toPy x <;> cases e2 : toPy y <;> rw [e1, e2] at q <;> first | exact ⟨q.1, q.2.1, i _ q.2.2⟩ | exact q.elim
  · unfold dEq at q
    cases e1 : toPy dx <;> cases e2 : toPy dy <;> rw [e1, e2] at q <;> first | exact ⟨_, _, r1.dp e1, r2.dp e2, q.1, q.2.1, q.2.2 _ H (.refl H) rfl⟩ | exact q.elim
theorem op2_ne : Op2 X.K b (rNeD X.K) (dEq true) := by
  refine ⟨fun x y k k' i q => ?_, fun O H dx dy x y Q _ r1 r2 q => ?_⟩
  · unfold dEq at q ⊢
    cases e1 : toPy x <;> cases e2 : toPy y <;> rw [e1, e2] at q <;> first | exact ⟨q.1, q.2.1, i _ q.2.2⟩ | exact q.elim
  · unfold dEq at q
    cases e1 : toPy dx <;> cases e2 : toPy dy <;> rw [e1, e2] at q <;> first | exact ⟨_, _, r1.dp e1, r2.dp e2, q.1, q.2.1, q.2.2 _ H (.refl H) rfl⟩ | exact q.elim
/-- is None, is not None -/
def dIsN (neg : Bool) : D → (D → Prop) → Prop := fun x k => match x with | .non => k (.bl (!neg)) | .clo _ => False | _ => k (.bl neg)
def gIsN (neg : Bool) (ga : GE) : GE := fun σ k => ga σ fun x => dIsN neg x k
theorem rep_isN {K : Fg} {H : Hp} {d : D} {v : V} (h : Rep K b H d v) (k : D → Prop) (neg : Bool) (q : dIsN neg d k) : k (.bl (if neg then !decide (v = .non) else decide (v = .non))) := by
  cases d with
  | non => rw [h.non]; cases neg <;> exact q
  | bl x => rw [h.bl]; cases neg <;> exact q
  | int x => rw [h.int]; cases neg <;> exact q
  | str x => rw [h.str]; cases neg <;> exact q
  | tup x => obtain ⟨a, vs, rfl, _⟩ := h.tup; cases neg <;> exact q
  | lst x => obtain ⟨a, vs, rfl, _⟩ := h.lst; cases neg <;> exact q
  | dic x y => simp only [Rep] at h; obtain ⟨a, o, vs, rfl, _⟩ := h; cases neg <;> exact q
  | ins x y z => obtain ⟨a, dx, vs, rfl, _⟩ := h.ins; cases neg <;> exact q
  | frl x y => obtain ⟨a, vs, rfl, _⟩ := h.frl; cases neg <;> exact q
  | frd x y => obtain ⟨a, vs, rfl, _⟩ := h.frd; cases neg <;> exact q
  | exc x y z => obtain ⟨a, dx, vs, rfl, _⟩ := h.exc; cases neg <;> exact q
  | cel x => obtain rfl := h.cel; cases neg <;> exact q
  | bag => simp only [Rep] at h; obtain ⟨a, rfl, _⟩ := h; cases neg <;> exact q
  | clo _ => exact q.elim
theorem gIsN_mn {neg : Bool} (A : Mn ga) : Mn (gIsN neg ga) := fun σ k k' i q => A _ _ _ (fun x hx => by cases x <;> first | exact i _ hx | exact hx.elim) q
theorem de_isN {j pos'} (A : DT b H0 X a ga) : DE b H0 X (.Compare a [.Is] [.Constant .none j pos'] pos) (gIsN false ga) := ⟨pe_imp (pe_cmp (pc_isN A.pe) rfl) fun σ H Q ⟨σd, O, R, q⟩ => ⟨σd, O, R, A.mn _ _ _ (fun d hd v H' x r => rep_isN r (fun d => ∀ v H', Ext b H H' → Rep X.K b (hide O H') d v → Q v H') false hd _ _ x rfl) q⟩, gIsN_mn A.mn⟩
theorem db_isN {j pos'} (A : DT b H0 X a ga) : DB b H0 X (.Compare a [.Is] [.Constant .none j pos'] pos) (gB (gIsN false ga)) := ⟨pt_imp (pt_cmp (pc_isN A.pe) rfl) fun σ H Q ⟨σd, O, R, q⟩ => ⟨σd, O, R, A.mn _ _ _ (fun d hd v H' x r => by
  have z := rep_isN r (fun e => match e with | .bl c => ∀ H', Ext b H H' → Q c H' | _ => False) false hd
  exact ⟨_, rfl, z H' x⟩) q⟩, gB_mn (gIsN_mn A.mn)⟩
end
/-! ### texts, lists, tuples: +, items, len -/
theorem line_m {n : Nat} (h : n ≤ 1000000) : n ≤ sizeLine := Nat.le_trans h (by decide)
def rCatL (K : Fg) : R2 := fun x y H Q => ∃ l b xs zs, x = .ref l ∧ y = .ref b ∧ SqL K H l xs ∧ SqL K H b zs ∧ xs.length + zs.length ≤ sizeLine ∧ ∀ p, H p = none → Q (.ref p) (upd H p (.lst (xs ++ zs)))
section
variable {X : Cx} {b : Option Addr} {H0 : Hp} {a c : Expr} {ga gb : GE} {pos : Pos}
theorem op_catL : OpR X (binaryOp .Add) (rCatL X.K) := by
  intro pins s σ H x y v u Q I rx ry h
  obtain ⟨l, b, xs, zs, rfl, rfl, hH, hB, hz, q⟩ := h
  cases rx
  cases ry
  obtain ⟨its, r, p1, _⟩ := I.list hH
  obtain ⟨its2, r2, p2, _⟩ := I.list hB
  obtain ⟨⟨cls, dd, data, sl⟩, n, ho, hc, hdd, hd⟩ := p1
  obtain ⟨⟨cls2, dd2, data2, sl2⟩, n2, ho2, hc2, hdd2, hd2⟩ := p2
  simp only at hc hd hc2 hd2
  subst hc hd hc2 hd2
  have hz' : its.toArray.size + its2.toArray.size ≤ sizeLine := by
    rw [List.size_toArray, List.size_toArray, ← r.length, ← r2.length]; exact hz
  have e : its.toArray ++ its2.toArray = (its ++ its2).toArray := by simp
  refine concat_meets ⟨_, ho, rfl⟩ ⟨_, ho2, rfl⟩ noFill_list_add seq_list_add PySem.F.slot_list_add PySem.F.entry_list_add (PySem.F.args_list_add_2 _ _) (list_addW l b its.toArray its2.toArray n n2 dd dd2 sl sl2 hz') ⟨ho, ho2, ?_⟩
  rw [e]
  exact ⟨.ref _, _, I.lnew (t' := s.toks) (r.append r2) (by rw [List.length_append]; exact hz), rfl, q _ I.fresh⟩
theorem rep_newL {K : Fg} {O : List Addr} {H : Hp} {ds : List D} {vs : List V} {p : Addr} (F : Fresh b O H) (hp : H p = none) (r : Reps K b (hide O H) ds vs) : Rep K b (hide O (upd H p (.lst vs))) (.lst ds) (.ref p) := by
  obtain ⟨n1, n2⟩ := F p hp
  rw [hide_new n1]
  exact Rep.mkLst n2 (.inl (.inl upd_same)) (r.mono (Le.new (by rw [hide_out n1]; exact hp)))
theorem rep_newT {K : Fg} {O : List Addr} {H : Hp} {ds : List D} {vs : List V} {p : Addr} (F : Fresh b O H) (hp : H p = none) (r : Reps K b (hide O H) ds vs) : Rep K b (hide O (upd H p (.tup vs))) (.tup ds) (.ref p) := by
  obtain ⟨n1, n2⟩ := F p hp
  rw [hide_new n1]
  exact Rep.mkTup n2 (.inl (.inl upd_same)) (r.mono (Le.new (by rw [hide_out n1]; exact hp)))
/-- an item: of a list, a tuple, a text -/
def dIx : D → D → (D → Prop) → Prop := fun x y k => match x, y with
  | .frl _ ds, .int i => match atI ds i with | some d => k d | none => False
  | .lst ds, .int i => match atI ds i with | some d => k d | none => False
  | .tup ds, .int i => match atI ds i with | some d => k d | none => False
  | .str z, .int i => z.length ≤ 1000000 ∧ match atI z.cps.toList i with | some c => k (.str ⟨#[c]⟩) | none => False
  | _, _ => False
theorem atI_reps {K : Fg} {H : Hp} {ds : List D} {vs : List V} {i : Int} {d : D} (r : Reps K b H ds vs) (h : atI ds i = some d) : ∃ v, atI vs i = some v ∧ Rep K b H d v := by
  unfold atI at h ⊢
  rw [← r.length]
  cases e : ixN ds.length i with
  | none => rw [e] at h; cases h
  | some j => rw [e] at h; exact r.get h
theorem dIx_mn : ∀ x y (k k' : D → Prop), (∀ d, k d → k' d) → dIx x y k → dIx x y k' := by
  intro x y k k' i q
  cases x with
  | frl a ds =>
    cases y with
    | int j =>
      simp only [dIx] at q ⊢
      cases e : atI ds j <;> rw [e] at q <;> first | exact i _ q | exact q.elim
    | _ => exact q.elim
  | lst ds =>
    cases y with
    | int j =>
      simp only [dIx] at q ⊢
      cases e : atI ds j <;> rw [e] at q <;> first | exact i _ q | exact q.elim
    | _ => exact q.elim
  | tup ds =>
    cases y with
    | int j =>
      simp only [dIx] at q ⊢
      cases e : atI ds j <;> rw [e] at q <;> first | exact i _ q | exact q.elim
    | _ => exact q.elim
  | str z =>
    cases y with
    | int j =>
      simp only [dIx] at q ⊢
      refine ⟨q.1, ?_⟩
      have q := q.2
      cases e : atI z.cps.toList j <;> rw [e] at q <;> first | exact i _ q | exact q.elim
    | _ => exact q.elim
  | _ => cases y <;> exact q.elim
theorem ix_ok {K : Fg} {H Hh : Hp} {dx dy : D} {x y : V} {Q : VK} (le : Le b Hh H) (r1 : Rep K b Hh dx x) (r2 : Rep K b H dy y) (q : dIx dx dy (fun d => ∀ v H', Ext b H H' → (Rep K b Hh d v) → Q v H')) : rIx K x y H Q := by
  cases dx with
  | frl a ds =>
    cases dy with
    | int j =>
      simp only [dIx] at q
      obtain ⟨o, vs, rfl, n, h, r⟩ := r1.frl
      cases e : atI ds j with
      | none => rw [e] at q; exact q.elim
      | some d =>
        rw [e] at q
        obtain ⟨v, e2, rv⟩ := atI_reps r e
        exact .inl ⟨a, vs, j, v, rfl, r2.int, sqL_mono le n (.inl (.inr ⟨o, h⟩)), e2, q v H (.refl H) rv⟩
    | _ => exact q.elim
  | lst ds =>
    cases dy with
    | int j =>
      simp only [dIx] at q
      obtain ⟨a, vs, rfl, n, h, r⟩ := r1.lst
      cases e : atI ds j with
      | none => rw [e] at q; exact q.elim
      | some d =>
        rw [e] at q
        obtain ⟨v, e2, rv⟩ := atI_reps r e
        exact .inl ⟨a, vs, j, v, rfl, r2.int, sqL_mono le n h, e2, q v H (.refl H) rv⟩
    | _ => exact q.elim
  | tup ds =>
    cases dy with
    | int j =>
      simp only [dIx] at q
      obtain ⟨a, vs, rfl, n, h, r⟩ := r1.tup
      cases e : atI ds j with
      | none => rw [e] at q; exact q.elim
      | some d =>
        rw [e] at q
        obtain ⟨v, e2, rv⟩ := atI_reps r e
        exact .inr (.inl ⟨a, vs, j, v, rfl, r2.int, sqT_mono le n h, e2, q v H (.refl H) rv⟩)
    | _ => exact q.elim
  | str z =>
    cases dy with
    | int j =>
      simp only [dIx] at q
      obtain ⟨hz, q⟩ := q
      cases e : atI z.cps.toList j with
      | none => rw [e] at q; exact q.elim
      | some c =>
        rw [e] at q
        exact .inr (.inr ⟨z, j, c, r1.str, r2.int, line_m hz, e, q _ H (.refl H) rfl⟩)
    | _ => exact q.elim
  | _ => cases dy <;> exact q.elim
theorem de_ix (A : DE b H0 X a ga) (B : DT b H0 X c gb) (hs : PlainIx c := by exact fun _ _ => rfl) : DE b H0 X (.Subscript a c pos) (g2 dIx ga gb) := by
  refine ⟨pe_imp (pe_ix ix_seq A.pe B.pe hs) fun σ H Q ⟨σd, O, R, q⟩ => ?_, g2_mn dIx_mn A.mn B.mn⟩
  refine ⟨σd, O, R, A.mn _ _ _ (fun x hx v1 H1 x1 r1 => ?_) q⟩
  refine ⟨σd, O, R.mono x1, B.mn _ _ _ (fun y hy v2 H2 x2 r2 => ?_) hx⟩
  exact ix_ok hide_le (r1.mono (x2.1.hide O)) r2 (dIx_mn _ _ _ _ (fun d kd v H' x3 r3 => kd v H' (x1.trans (x2.trans x3)) (r3.mono (x3.1.hide O))) hy)
end
/-! ### built-in calls that hand back a scalar -/
/-- a built-in of one argument, weak -/
structure Cl1 (K : Fg) (b : Option Addr) (r : List V → Hp → VK → Prop) (rd : D → (D → Prop) → Prop) : Prop where
  mn : ∀ x (k k' : D → Prop), (∀ d, k d → k' d) → rd x k → rd x k'
  ok : ∀ (O : List Addr) (H : Hp) (dx : D) (x : V) (Q : VK), Fresh b O H → Rep K b H dx x → rd dx (fun d => ∀ v H', Ext b H H' → Rep K b (hide O H') d v → Q v H') → r [x] H Q
section
variable {X : Cx} {b : Option Addr} {H0 : Hp} {a c : Expr} {ga gb : GE} {pos p : Pos} {x : Str} {id T : String} {r : List V → Hp → VK → Prop} {rd : D → (D → Prop) → Prop}
theorem cl1_run (o : Cl1 X.K b r rd) (A : DT b H0 X a ga) {σ : L2.St} {H : Hp} {Q : VK} (h : LE X.K b H0 (g1 rd ga) σ H Q) : tCB r (tCons (LT X.K b H0 ga) tNil) σ H Q := by
  obtain ⟨σd, O, R, q⟩ := h
  refine ⟨σd, O, R, A.mn _ _ _ (fun x hx v1 H1 x1 r1 => ?_) q⟩
  exact o.ok O H1 x v1 Q (fun p hp => (R.mono x1).free hp) r1 (o.mn _ _ _ (fun d kd v H' x3 r3 => kd v H' (x1.trans x3) r3) hx)
theorem de_callB (hc : CallR X (.builtin id) r) (o : Cl1 X.K b r rd) (hg : Gl X x) (hm : X.mg x = none) (hv : bootBuiltins x = some (.builtin id)) (A : DT b H0 X a ga) (hn : x ≠ "__name__" := by decide) (hdb : (x == ("__debug__" : Str)) = false := by decide)
    (he : starEach [a] X.env = (false, eval a X.env) :: starEach [] X.env := by rfl) : DE b H0 X (.Call (.Name x p) [a] [] pos) (g1 rd ga) :=
  ⟨pe_imp (pe_callB hc hg hm hv (pa_cons A.pe pa_nil he) hn hdb he rfl) fun σ H Q h => cl1_run o A h, g1_mn o.mn A.mn⟩
end
def dStrI : D → (D → Prop) → Prop := fun x k => match x with | .int i => i.natAbs.log2 < 1920 ∧ k (.str (toString i)) | _ => False
def dLen3 : D → (D → Prop) → Prop := fun x k => match x with | .lst ds => k (.int ds.length) | .tup ds => k (.int ds.length) | .frl _ ds => k (.int ds.length) | .str z => z.length ≤ 1000000 ∧ k (.int z.length) | _ => False
def dList : D → (D → Prop) → Prop := fun x k => match x with | .lst ds => k (.lst ds) | .tup ds => k (.lst ds) | .frl _ ds => k (.lst ds) | _ => False
def dTuple : D → (D → Prop) → Prop := fun x k => match x with | .lst ds => k (.tup ds) | .tup ds => k (.tup ds) | _ => False
def blsOf : List D → Option (List Bool)
  | [] => some []
  | .bl i :: r => (blsOf r).map (i :: ·)
  | _ :: _ => none
def dAll : D → (D → Prop) → Prop := fun x k => match x with | .lst ds => (match blsOf ds with | some ns => k (.bl (ns.all id)) | none => False) | _ => False
section
variable {K : Fg} {b : Option Addr} {H : Hp}
theorem reps_bls : ∀ {ds : List D} {vs : List V} {ns : List Bool}, Reps K b H ds vs → blsOf ds = some ns → vs = ns.map V.bl
  | [], vs, ns, h, e => by simp only [blsOf, Option.some.injEq] at e; subst e; rw [h.of_nil]; rfl
  | d :: r, vs, ns, h, e => by
    obtain ⟨v, q, rfl, h1, h2⟩ := h.of_cons
    cases d with
    | bl i =>
      simp only [blsOf] at e
      cases q2 : blsOf r with
      | none => rw [q2] at e; cases e
      | some ms => rw [q2] at e; cases e; rw [h1.bl, reps_bls h2 q2]; rfl
    | _ => simp only [blsOf] at e; cases e
end
section
variable {X : Cx} {b : Option Addr} {H0 : Hp} {a c : Expr} {ga gb : GE} {pos p : Pos}
theorem cl_all : Cl1 X.K b (rAll X.K) dAll := by
  refine ⟨fun x k k' i q => ?_, fun O H dx x Q F r q => ?_⟩
  · cases x with
    | lst ds => simp only [dAll] at q ⊢; cases e : blsOf ds <;> rw [e] at q <;> first | exact i _ q | exact q.elim
    | _ => exact q.elim
  · cases dx with
    | lst ds =>
      simp only [dAll] at q
      cases e : blsOf ds with
      | none => rw [e] at q; exact q.elim
      | some ns =>
        rw [e] at q
        obtain ⟨a, vs, rfl, n, h, s⟩ := r.lst
        have ev := reps_bls s e
        exact ⟨a, ns, rfl, ev ▸ h, q _ H (.refl H) rfl⟩
    | _ => exact q.elim
def rLen3 (K : Fg) : List V → Hp → VK → Prop := fun xs H Q => (∃ p ys, xs = [.ref p] ∧ (SqL K H p ys ∨ SqT K H p ys) ∧ Q (.int ys.length) H) ∨ (∃ z, xs = [.str z] ∧ z.length ≤ sizeLine ∧ Q (.int z.length) H)
theorem call_len3 : CallR X (.builtin "len") (rLen3 X.K) := by
  intro pins s σ H xs us Q I r h
  rcases h with h | h
  · exact call_len_seq pins s σ H xs us Q I r h
  · exact call_len_str pins s σ H xs us Q I r h
theorem cl_len : Cl1 X.K b (rLen3 X.K) dLen3 := by
  refine ⟨fun x k k' i q => ?_, fun O H dx x Q F r q => ?_⟩
  · cases x <;> first | exact i _ q | exact ⟨q.1, i _ q.2⟩ | exact q.elim
  · cases dx with
    | lst ds =>
      obtain ⟨a, vs, rfl, n, h, s⟩ := r.lst
      exact .inl ⟨a, vs, rfl, .inl h, by rw [← s.length]; exact q _ H (.refl H) rfl⟩
    | tup ds =>
      obtain ⟨a, vs, rfl, n, h, s⟩ := r.tup
      exact .inl ⟨a, vs, rfl, .inr h, by rw [← s.length]; exact q _ H (.refl H) rfl⟩
    | frl a ds =>
      obtain ⟨o, vs, rfl, n, h, s⟩ := r.frl
      exact .inl ⟨a, vs, rfl, .inl (.inl (.inr ⟨o, h⟩)), by rw [← s.length]; exact q _ H (.refl H) rfl⟩
    | str z => exact .inr ⟨z, by rw [r.str], line_m q.1, q.2 _ H (.refl H) rfl⟩
    | _ => exact q.elim
end
end DL
/-! DDc -/
set_option Elab.async false
set_option linter.all false
set_option maxRecDepth 100000
set_option maxHeartbeats 4000000
/-! Calls: a def's promise over data; what the caller owns is framed. -/
namespace DL
open PySem PySem.Spec PyProof.Rows L2
variable [TabC]
/-- an error of the program's own, as data -/
structure XD where
  c : Str
  ns : List Str
  ds : List D
def XAt (K : Fg) (b : Option Addr) (H : Hp) (x : XD) (cls : Value) (d : Option Addr) : Prop := cls = .ref (He.ga K x.c) ∧ ∃ da vs, d = some da ∧ H da = some (.xd (x.ns.zip vs)) ∧ x.ns.length = vs.length ∧ Reps K b H x.ds vs
abbrev GS := List D → (D → Prop) → (XD → Prop) → Prop
def MnS (s : GS) : Prop := ∀ ds k k' e e', (∀ d, k d → k' d) → (∀ x, e x → e' x) → s ds k e → s ds k' e'
def lift (K : Fg) (s : GS) : Sp := fun vs H Q E => ∃ b ds, Bg b H ∧ Reps K b H ds vs ∧ s ds (fun d => ∀ v H', Ext b H H' → Rep K b H' d v → Q v H') (fun x => ∀ cls d H', Ext b H H' → XAt K b H' x cls d → E cls d H')
/-- what the errors of a body come to -/
structure Cz (X : Cx) (b : Option Addr) (H0 : Hp) (E : XK) (eo : XD → Prop) : Prop where
  pass : Passes (L2.CX X.prog X.w) X E
  ex : ∀ x cls d H', eo x → Ext b H0 H' → XAt X.K b H' x cls d → E cls d H'
theorem XAt.mono {K : Fg} {b : Option Addr} {H H' : Hp} {x : XD} {cls : Value} {d : Option Addr} (h : XAt K b H x cls d) (l : Le b H H') (n : ∀ da, d = some da → some da ≠ b) : XAt K b H' x cls d := by
  obtain ⟨h1, da, vs, e, h2, h3, h4⟩ := h
  exact ⟨h1, da, vs, e, l _ _ (n da e) h2 rfl, h3, h4.mono l⟩
section
variable {X : Cx} {b : Option Addr} {H0 : Hp} {pins : List (Addr × Obj)} {σ : L2.St} {σd : StD} {H : Hp} {s0 : Shared} {O : List Addr}
theorem hide_keep {a : Addr} {o : HO} (hO : ∀ a ∈ O, Hid O H a) (h : H a = some o) (n : (∃ xs, o = .tup xs) ∨ (∃ ob u, o = .frz ob u) ∨ (∃ ps, o = .tbl ps)) : hide O H a = some o := by
  by_cases m : a ∈ O
  · obtain ⟨o', e, q⟩ := hO a m
    rw [h] at e; cases e
    rcases n with ⟨xs, rfl⟩ | ⟨ob, u, rfl⟩ | ⟨ps, rfl⟩ <;> exact q.elim
  · rw [hide_out m]; exact h
theorem hide_none {a : Addr} (h : H a = none) : hide O H a = none := by
  unfold hide
  split
  · rfl
  · exact h
theorem hok_hide {P : Program} {w : World} {h : Heap} (hO : ∀ a ∈ O, Hid O H a) (ok : HOk P w H h) : HOk P w (hide O H) h := fun a o e => by
  obtain ⟨n, e⟩ := of_hide e
  refine (ok a o e).stay (fun _ _ _ q => q) (fun c q => ?_) fun c xs q => hide_keep hO q (.inl ⟨xs, rfl⟩)
  by_cases m : c ∈ O
  · obtain ⟨o', e', z⟩ := hO c m
    rw [q] at e'; cases e'
    exact absurd z.1 n
  · rw [hide_out m]; exact q
theorem inv_hide (I : Inv X pins σ H s0) (hO : ∀ a ∈ O, Hid O H a) : Inv X pins σ (hide O H) s0 where
  ok := I.ok
  os := I.os
  bare := I.bare
  base := ⟨fun c o e n h1 h2 => I.base.keep c o e n h1 h2, fun c o e n h1 h2 => I.base.slot c o e n h1 h2, fun c o e n h => hide_none (I.base.free c o e n h), fun c o e h => I.base.there c o e h,
    fun c xs e => hide_keep hO (I.base.tups c xs e) (.inl ⟨xs, rfl⟩), fun c o u e => hide_keep hO (I.base.frzs c o u e) (.inr (.inl ⟨o, u, rfl⟩)), fun c ps e => by
      obtain ⟨m, e2⟩ := I.base.tbls c ps e
      exact ⟨m, hide_keep hO e2 (.inr (.inr ⟨_, rfl⟩))⟩⟩
  loc := I.loc
  cell := I.cell
  free := hide_none I.free
  freeC := fun x c e => hide_none (I.freeC x c e)
  pin := fun p hp => by
    obtain ⟨h1, h2, h3, h4, h5⟩ := I.pin p hp
    exact ⟨h1, hide_none h2, h3, h4, h5⟩
  hok := hok_hide hO I.hok
  len := I.len
/-- behind a call that saw the heap without what is owned -/
def back (O : List Addr) (H H2 : Hp) : Hp := fun a => if a ∈ O then H a else H2 a
theorem back_out {H2 : Hp} {a : Addr} (h : a ∉ O) : back O H H2 a = H2 a := if_neg h
theorem back_in {H2 : Hp} {a : Addr} (h : a ∈ O) : back O H H2 a = H a := if_pos h
theorem back_ext {H2 : Hp} (hO : ∀ a ∈ O, some a ≠ b ∧ Hid O H a) (fr : ∀ a ∈ O, H2 a = none) (x : Ext b (hide O H) H2) : Ext b H (back O H H2) := by
  refine ⟨fun a o n e t => ?_, fun a e c i j m h h0 => ?_, fun t => ?_⟩
  · by_cases m : a ∈ O
    · rw [back_in m]; exact e
    · rw [back_out m]; exact x.1 a o n (by rw [hide_out m]; exact e) t
  · have m' : a ∉ O := fun z => (hO a z).1 e.symm
    rw [back_out m']
    exact x.2.1 a e c i j m (by rw [hide_out m']; exact h) h0
  · refine (x.2.2 (tabs_hide (fun a m => (hO a m).2.nt) t)).ext fun a o e => ?_
    rw [back_out (fun m => by rw [fr a m] at e; cases e)]; exact e
theorem back_hide {H2 : Hp} (h : ∀ a ∈ O, H2 a = none) : hide O (back O H H2) = H2 := by
  funext a
  by_cases m : a ∈ O
  · rw [hide_in m, h a m]
  · rw [hide_out m, back_out m]
theorem inv_back {s' : Shared} {H2 : Hp} (I : Inv X pins σ H s0) (hO : ∀ a ∈ O, Hid O H a) (os : s'.os = s0.os) (bare : AllBare s'.gens) (un : Un (frs X.stack) [] (hide O H) H2 s0.heap s'.heap) (ok : HOk X.prog X.w H2 s'.heap) :
    (∀ a ∈ O, H2 a = none) ∧ Inv X pins σ (back O H H2) s' := by
  have thr : ∀ a ∈ O, ∃ o ob, H a = some o ∧ s0.heap.get? a = some ob ∧ s'.heap.get? a = some ob := fun a m => by
    obtain ⟨o, e, q2⟩ := hO a m
    · cases q : s0.heap.get? a with
      | none =>
        exfalso
        have z := I.hok a o e
        cases o with
        | lst xs => obtain ⟨_, _, _, _, h⟩ := z; rw [q] at h; cases h
        | dK kvs => obtain ⟨_, _, _, _, ob, es, ep, h, _⟩ := z; rw [q] at h; cases h
        | dT kvs => obtain ⟨_, _, _, _, ob, es, ep, h, _⟩ := z; rw [q] at h; cases h
        | ins C dx fs => obtain ⟨_, _, _, h, _⟩ := z; rw [q] at h; cases h
        | own y => obtain ⟨ob, h⟩ := z; rw [q] at h; cases h
        | _ => exact q2.elim
      | some ob =>
        exact ⟨o, ob, e, rfl, un.keep a ob q (hide_in m) (fun z => by
          have := I.stkFree a z
          rw [e] at this; cases this) (by simp)⟩
  have fr : ∀ a ∈ O, H2 a = none := fun a m => by
    obtain ⟨o, ob, e, q, _⟩ := thr a m
    exact un.free a ob q (hide_in m) (by simp)
  refine ⟨fr, I.call' (ch := []) os ?_ ?_ bare (fun c z => absurd z (by simp))⟩
  · refine ⟨fun c o e n h1 h2 => un.keep c o e (hide_none n) h1 h2, fun c o e n h1 h2 => un.slot c o e (hide_none n) h1 h2, fun c o e n h => ?_, fun c o e h => un.there c o e h, fun c xs e => ?_, fun c o u e => ?_, fun c ps e => ?_⟩
    · by_cases m : c ∈ O
      · exact absurd n (hO c m).ne
      · rw [back_out m]; exact un.free c o e (hide_none n) h
    · have q := hide_keep hO e (.inl ⟨xs, rfl⟩)
      rw [back_out (of_hide q).1]; exact un.tups c xs q
    · have q := hide_keep hO e (.inr (.inl ⟨o, u, rfl⟩))
      rw [back_out (of_hide q).1]; exact un.frzs c o u q
    · have q := hide_keep hO e (.inr (.inr ⟨ps, rfl⟩))
      rw [back_out (of_hide q).1]; exact un.tbls c ps q
  · intro a o e
    by_cases m : a ∈ O
    · rw [back_in m] at e
      obtain ⟨o', ob, e1, q1, q2⟩ := thr a m
      obtain ⟨o2, e2, hid⟩ := hO a m
      rw [e] at e2; cases e2
      have z := I.hok a o e
      cases o with
      | lst xs =>
        obtain ⟨z1, its, n, r, h⟩ := z
        rw [q1] at h; cases h
        exact ⟨z1, its, n, r, q2⟩
      | dK kvs =>
        obtain ⟨z1, y, vs, r, ob', es, ep, h, c⟩ := z
        rw [q1] at h; cases h
        exact ⟨z1, y, vs, r, ob, es, ep, q2, c⟩
      | dT kvs =>
        obtain ⟨z1, y, vs, r, ob', es, ep, h, c⟩ := z
        rw [q1] at h; cases h
        refine ⟨z1, y, vs, r.mono fun p q ⟨h1, h2, h3⟩ => ⟨h1, ?_, h3⟩, ob, es, ep, q2, c⟩
        have no : q.2.1 ∉ O := fun m => by
          obtain ⟨o, e, w⟩ := hO _ m
          rw [h2] at e; cases e; exact w
        rw [back_out no]
        exact un.tups _ _ (by rw [hide_out no]; exact h2)
      | ins C dx fs =>
        obtain ⟨d, z1, ne, h, mA, ⟨od, es, ep, h2, c⟩, r⟩ := z
        rw [q1] at h; cases h
        obtain ⟨_, ob2, _, q3, q4⟩ := thr dx hid
        rw [h2] at q3; cases q3
        exact ⟨by rw [back_in hid]; exact d, z1, ne, q2, mA, ⟨od, es, ep, q4, c⟩, r⟩
      | own y => exact ⟨ob, q2⟩
      | _ => exact hid.elim
    · rw [back_out m] at e
      exact (ok a o e).stay (fun _ _ _ q => q) (fun c q => by
        rw [back_out (fun w => by rw [fr c w] at q; cases q)]; exact q) fun c xs q => by
        rw [back_out (fun w => by rw [fr c w] at q; cases q)]; exact q
/-! ### the call of a def -/
variable {P : Program} {E : XK} {eo : XD → Prop} {s : GS} {k : Nat} {f : Addr} {fd : FuncData} {ps : List Str} {ds dd : List D} {vs dvs : List V} {us dus : List Value} {Q : VK}
end
end DL
/-! DE1 -/
set_option Elab.async false
set_option linter.all false
set_option maxRecDepth 100000
set_option maxHeartbeats 4000000
/-! Statements, targets, what is walked, loops, comprehensions. -/
namespace DL
open PySem PySem.Spec PyProof.Rows L2
variable [TabC]
structure EndD where
  nx : StD → Prop
  rt : D → Prop
  bk : StD → Prop := fun _ => False
  ct : StD → Prop := fun _ => False
abbrev GSt := EndD → StD → Prop
def MnD (g : GSt) : Prop := ∀ D D' σ, (∀ σ, D.nx σ → D'.nx σ) → (∀ d, D.rt d → D'.rt d) → (∀ σ, D.bk σ → D'.bk σ) → (∀ σ, D.ct σ → D'.ct σ) → g D σ → g D' σ
section
variable (K : Fg) (b : Option Addr) (H0 : Hp)
def dn (Hs : Hp) (D : Ends) : EndD := ⟨fun σd => ∀ σ H O, Rst K b H0 σd σ H O → Ext b Hs (hide O H) → D.nx σ H, fun d => ∀ v H, Ext b H0 H → Rep K b H d v → D.rt v H, fun σd => ∀ σ H O, Rst K b H0 σd σ H O → Ext b Hs (hide O H) → D.bk σ H, fun σd => ∀ σ H O, Rst K b H0 σd σ H O → Ext b Hs (hide O H) → D.ct σ H⟩
def LS (g : GSt) : TS := fun D σ H => ∃ σd O, Rst K b H0 σd σ H O ∧ g (dn K b H0 (hide O H) D) σd
end
structure DS (b : Option Addr) (H0 : Hp) (X : Cx) (st : Stmt) (g : GSt) : Prop where
  ps : PS X st (LS X.K b H0 g)
  mn : MnD g
structure DSs (b : Option Addr) (H0 : Hp) (X : Cx) (st : List Stmt) (g : GSt) : Prop where
  ps : PSs X st (LS X.K b H0 g)
  mn : MnD g
section
variable {X : Cx} {b : Option Addr} {H0 : Hp} {pos : Pos} {st : Stmt} {sts : List Stmt} {g u : GSt} {e : Expr} {ge : GE} {gt : GT}
theorem ps_imp {t t' : TS} (h : PS X st t) (i : ∀ D σ H, t' D σ H → t D σ H) : PS X st t' := ⟨fun pins s σ H D I q => h.run pins s σ H D I (i D σ H q)⟩
theorem pss_imp {t t' : TS} (h : PSs X sts t) (i : ∀ D σ H, t' D σ H → t D σ H) : PSs X sts t' := ⟨fun pins s σ H D I q => h.run pins s σ H D I (i D σ H q)⟩
/-- what is handed back from a state -/
theorem Rst.ret {K : Fg} {σd : StD} {σ : L2.St} {H H' : Hp} {O : List Addr} (R : Rst K b H0 σd σ H O) (x : Ext b H H') : Ext b H0 H' := by
  have h1 : Ext b (hide O H) H := ⟨hide_le, fun a e c i j m h h0 => ⟨i, j, h0, (of_hide h).2⟩, fun t => tabs_unhide t⟩
  exact (R.le.trans h1).trans x
def gNext : GSt := fun D σ => D.nx σ
def gSeq (g u : GSt) : GSt := fun D σ => g { D with nx := u D } σ
def gBreak : GSt := fun D σ => D.bk σ
def gCont : GSt := fun D σ => D.ct σ
def gDrop (ge : GE) : GSt := fun D σ => ge σ fun _ => D.nx σ
def gRet (ge : GE) : GSt := fun D σ => ge σ D.rt
def gRetN : GSt := fun D _ => D.rt .non
def gIfS (c : GT) (g u : GSt) : GSt := fun D σ => c σ fun x => match x with | true => g D σ | false => u D σ
def gNever : GSt := fun _ _ => False
def gAsg (i : Nat) (ge : GE) : GSt := fun D σ => ge σ fun d => D.nx (put σ i (.sh d))
theorem gSeq_mn (A : MnD g) (B : MnD u) : MnD (gSeq g u) := fun D D' σ h1 h2 h3 h4 q => A { D with nx := u D } { D' with nx := u D' } σ (fun σ' q' => B D D' σ' h1 h2 h3 h4 q') h2 h3 h4 q
theorem gRet_mn (A : Mn ge) : MnD (gRet ge) := fun D D' σ h1 h2 h3 h4 q => A _ _ _ (fun d z => h2 d z) q
theorem gIfS_mn (C : Mn gt) (A : MnD g) (B : MnD u) : MnD (gIfS gt g u) := fun D D' σ h1 h2 h3 h4 q => C _ _ _ (fun x z => by
  cases x
  · exact B D D' σ h1 h2 h3 h4 z
  · exact A D D' σ h1 h2 h3 h4 z) q
theorem gAsg_mn {i : Nat} (A : Mn ge) : MnD (gAsg i ge) := fun D D' σ h1 h2 h3 h4 q => A _ _ _ (fun d z => h1 _ z) q
theorem gNever_mn : MnD gNever := fun _ _ _ _ _ _ _ q => q.elim
theorem gNext_mn : MnD gNext := fun D D' σ h1 _ _ _ q => h1 _ q
theorem dss_nil : DSs b H0 X [] gNext := ⟨pss_imp pss_nil fun D σ H ⟨σd, O, R, q⟩ => q σ H O R (.refl _), gNext_mn⟩
theorem dss_cons (h1 : DS b H0 X st g) (h2 : DSs b H0 X sts u) : DSs b H0 X (st :: sts) (gSeq g u) :=
  ⟨pss_imp (pss_cons h1.ps h2.ps) fun D σ H ⟨σd, O, R, q⟩ => ⟨σd, O, R, h1.mn { dn X.K b H0 (hide O H) D with nx := u (dn X.K b H0 (hide O H) D) } _ _ (fun σ' z σ2 H2 O2 R2 x2 => ⟨σ', O2, R2, h2.mn (dn X.K b H0 (hide O H) D) _ _ (fun _ w _ _ _ R3 x3 => w _ _ _ R3 (x2.trans x3)) (fun _ w => w) (fun _ w _ _ _ R3 x3 => w _ _ _ R3 (x2.trans x3)) (fun _ w _ _ _ R3 x3 => w _ _ _ R3 (x2.trans x3)) z⟩) (fun d z => z) (fun σ z => z) (fun σ z => z) q⟩, gSeq_mn h1.mn h2.mn⟩
theorem dss_one (h1 : DS b H0 X st g) : DSs b H0 X [st] g := ⟨pss_one h1.ps, h1.mn⟩
theorem dss_never : DSs b H0 X sts gNever := ⟨pss_imp pss_never fun D σ H ⟨σd, O, R, q⟩ => q, gNever_mn⟩
theorem ds_ret (A : DT b H0 X e ge) : DS b H0 X (.Return (some e) pos) (gRet ge) :=
  ⟨ps_imp (ps_ret A.pe) fun D σ H ⟨σd, O, R, q⟩ => ⟨σd, O, R, A.mn _ _ _ (fun d z v H' x r => z v H' (R.ret x) r) q⟩, gRet_mn A.mn⟩
theorem ds_if {c : Expr} {a a2 : List Stmt} (C : DB b H0 X c gt) (A : DSs b H0 X a g) (B : DSs b H0 X a2 u) : DS b H0 X (.If c a a2 pos) (gIfS gt g u) :=
  ⟨ps_imp (ps_if C.pt A.ps B.ps) fun D σ H ⟨σd, O, R, q⟩ => ⟨σd, O, R, C.mn _ _ _ (fun x z H' x1 => by
    have st : ∀ (g : GSt), MnD g → g (dn X.K b H0 (hide O H) D) σd → LS X.K b H0 g D σ H' := fun g m z => ⟨σd, O, R.mono x1, m (dn X.K b H0 (hide O H) D) _ _ (fun _ w _ _ _ R3 x3 => w _ _ _ R3 ((R.hx x1).trans x3)) (fun _ w => w) (fun _ w _ _ _ R3 x3 => w _ _ _ R3 ((R.hx x1).trans x3)) (fun _ w _ _ _ R3 x3 => w _ _ _ R3 ((R.hx x1).trans x3)) z⟩
    cases x
    · exact st u B.mn z
    · exact st g A.mn z) q⟩, gIfS_mn C.mn A.mn B.mn⟩
/-! ### a slot is set -/
theorem look_put2 {σ : StD} {i : Nat} {x : SD} (j : Nat) : look (put σ i x) j = if j = i ∧ i < σ.length then x else look σ j := by
  by_cases h : i < σ.length
  · rw [look_put j h]; simp [h]
  · rw [if_neg (fun z => h z.2)]
    have e : put σ i x = σ := by
      clear j
      induction σ generalizing i with
      | nil => rfl
      | cons y r ih =>
        cases i with
        | zero => simp at h
        | succ n => simp only [put]; rw [ih (by simpa using h)]
    rw [e]
theorem getD_set {σ : L2.St} {i j : Nat} {v : V} : (σ.set i (some v)).getD j none = if j = i ∧ i < σ.length then some v else σ.getD j none := by
  rw [List.getD_eq_getElem?_getD, List.getD_eq_getElem?_getD]
  by_cases h : i = j
  · subst h
    by_cases hl : i < σ.length
    · rw [List.getElem?_set_self hl]; simp [hl]
    · rw [if_neg (fun z => hl z.2), List.getElem?_eq_none (by simpa using hl), List.getElem?_eq_none (by simpa using hl)]
  · rw [List.getElem?_set_ne h, if_neg (fun z => h z.1.symm)]
theorem Rst.set {K : Fg} {σd : StD} {σ : L2.St} {H : Hp} {O : List Addr} (R : Rst K b H0 σd σ H O) {d : D} {v : V} (i : Nat) (r : Rep K b (hide O H) d v) : Rst K b H0 (put σd i (.sh d)) (σ.set i (some v)) H O where
  len := by rw [put_length, List.length_set]; exact R.len
  slot := fun j => by
    rw [look_put2, getD_set, R.len]
    by_cases h : j = i ∧ i < σ.length
    · rw [if_pos h, if_pos h]; exact ⟨v, rfl, r⟩
    · rw [if_neg h, if_neg h]; exact R.slot j
  uniq := fun j k a h1 h2 => by
    rw [look_put2, getD_set, R.len] at h1 h2
    by_cases hj : j = i ∧ i < σ.length
    · rw [if_pos hj, if_pos hj] at h1; exact h1.elim
    · by_cases hk : k = i ∧ i < σ.length
      · rw [if_pos hk, if_pos hk] at h2; exact h2.elim
      · rw [if_neg hj, if_neg hj] at h1
        rw [if_neg hk, if_neg hk] at h2
        exact R.uniq j k a h1 h2
  nb := R.nb
  le := R.le
  bg := R.bg
theorem ds_asg {i : Nat} {x : Str} {pos' : Pos} (hN : X.N.Nodup) (hi : X.N[i]? = some x) (hx : Loc X.env.scope x) (A : DE b H0 X e ge) (hs : swapsWith e (some (.Name x pos')) pos.line X.env = pure false := by rfl) (hf : X.fn x = true ∨ X.env.scope.names.lookup x = some .local := by first | exact .inl rfl | exact .inr rfl | assumption) :
    DS b H0 X (.Assign [.Name x pos'] e pos) (gAsg i ge) :=
  ⟨ps_imp (ps_set hN hi hx A.pe hs hf) fun D σ H ⟨σd, O, R, q⟩ => ⟨σd, O, R, A.mn _ _ _ (fun d z v H' x1 r => z _ H' O ((R.mono x1).set i r) (R.hx x1)) q⟩, gAsg_mn A.mn⟩
/-! ### targets -/
inductive Tgt where
  | nm (i : Nat)
  | tp (l : List Tgt)
mutual
def asg : Tgt → D → StD → (StD → Prop) → Prop
  | .nm i, d, σ, k => k (put σ i (.sh d))
  | .tp l, d, σ, k => match d with | .tup ds => asgs l ds σ k | .lst ds => asgs l ds σ k | _ => False
def asgs : List Tgt → List D → StD → (StD → Prop) → Prop
  | [], [], σ, k => k σ
  | t :: l, d :: ds, σ, k => asg t d σ fun σ' => asgs l ds σ' k
  | _, _, _, _ => False
end
mutual
def slots : Tgt → List Nat
  | .nm i => [i]
  | .tp l => slotsL l
def slotsL : List Tgt → List Nat
  | [] => []
  | t :: l => slots t ++ slotsL l
end
mutual
theorem asg_mn : ∀ (t : Tgt) (d : D) (σ : StD) (k k' : StD → Prop), (∀ s, k s → k' s) → asg t d σ k → asg t d σ k'
  | .nm i, d, σ, k, k', h, q => h _ q
  | .tp l, d, σ, k, k', h, q => by
    simp only [asg] at q ⊢
    cases d <;> first | exact asgs_mn l _ _ _ _ h q | exact q.elim
theorem asgs_mn : ∀ (l : List Tgt) (ds : List D) (σ : StD) (k k' : StD → Prop), (∀ s, k s → k' s) → asgs l ds σ k → asgs l ds σ k'
  | [], [], σ, k, k', h, q => h _ q
  | t :: l, d :: ds, σ, k, k', h, q => by
    simp only [asgs] at q ⊢
    exact asg_mn t d σ _ _ (fun s z => asgs_mn l ds s k k' h z) q
  | [], _ :: _, _, _, _, _, q => q.elim
  | _ :: _, [], _, _, _, _, q => q.elim
end
mutual
theorem asg_ex : ∀ (t : Tgt) (d : D) (σ : StD) (k : StD → Prop), asg t d σ k → ∃ s, k s
  | .nm i, d, σ, k, q => ⟨_, q⟩
  | .tp l, d, σ, k, q => by
    simp only [asg] at q
    cases d <;> first | exact (asgs_ex l _ _ _ q).2 | exact q.elim
theorem asgs_ex : ∀ (l : List Tgt) (ds : List D) (σ : StD) (k : StD → Prop), asgs l ds σ k → l.length = ds.length ∧ ∃ s, k s
  | [], [], σ, k, q => ⟨rfl, _, q⟩
  | t :: l, d :: ds, σ, k, q => by
    simp only [asgs] at q
    obtain ⟨s, z⟩ := asg_ex t d σ _ q
    obtain ⟨e, w⟩ := asgs_ex l ds s k z
    exact ⟨by simp [e], w⟩
  | [], _ :: _, _, _, q => q.elim
  | _ :: _, [], _, _, q => q.elim
end
def Agree (σ σ' : L2.St) (l : List Nat) : Prop := σ'.length = σ.length ∧ ∀ j, j ∉ l → σ'[j]? = σ[j]?
theorem Agree.refl (σ : L2.St) (l : List Nat) : Agree σ σ l := ⟨rfl, fun _ _ => rfl⟩
theorem Agree.trans {σ σ' σ2 : L2.St} {l l' m : List Nat} (a : Agree σ σ' l) (c : Agree σ' σ2 l') (h : ∀ j, j ∈ l ∨ j ∈ l' → j ∈ m) : Agree σ σ2 m := ⟨c.1.trans a.1, fun j n => (c.2 j fun z => n (h j (.inr z))).trans (a.2 j fun z => n (h j (.inl z)))⟩
def LG (K : Fg) (b : Option Addr) (H0 : Hp) (t : Tgt) : TG := fun v σ H Q => ∃ σd O d, Rst K b H0 σd σ H O ∧ Rep K b (hide O H) d v ∧ asg t d σd fun σd' => ∀ σ', Agree σ σ' (slots t) → Rst K b H0 σd' σ' H O → Q σ' H
def LGs (K : Fg) (b : Option Addr) (H0 : Hp) (l : List Tgt) : TGs := fun vs σ H Q => ∃ σd O ds, Rst K b H0 σd σ H O ∧ Reps K b (hide O H) ds vs ∧ asgs l ds σd fun σd' => ∀ σ', Agree σ σ' (slotsL l) → Rst K b H0 σd' σ' H O → Q σ' H
structure DG (b : Option Addr) (H0 : Hp) (X : Cx) (tg : Expr) (t : Tgt) : Prop where
  pg : PG X tg (LG X.K b H0 t)
structure DGs (b : Option Addr) (H0 : Hp) (X : Cx) (tg : List Expr) (t : List Tgt) : Prop where
  pg : PGs X tg (LGs X.K b H0 t)
theorem pg_imp {tg : Expr} {t t' : TG} (h : PG X tg t) (i : ∀ v σ H Q, t' v σ H Q → t v σ H Q) : PG X tg t' := ⟨fun pins s σ H v u Q I r q => h.run pins s σ H v u Q I r (i v σ H Q q)⟩
theorem pgs_imp {tg : List Expr} {t t' : TGs} (h : PGs X tg t) (i : ∀ v σ H Q, t' v σ H Q → t v σ H Q) : PGs X tg t' := ⟨fun pins s σ H v u Q I r q => h.run pins s σ H v u Q I r (i v σ H Q q)⟩
theorem dg_name {i : Nat} {x : Str} (hN : X.N.Nodup) (hi : X.N[i]? = some x) (hx : Loc X.env.scope x) (hf : X.fn x = true ∨ X.env.scope.names.lookup x = some .local := by first | exact .inl rfl | exact .inr rfl | assumption) : DG b H0 X (.Name x pos) (.nm i) :=
  ⟨pg_imp (pg_name hN hi hx hf) fun v σ H Q ⟨σd, O, d, R, r, q⟩ => by
    simp only [asg] at q
    exact q _ ⟨List.length_set, fun j n => List.getElem?_set_ne (fun z => n (by simp [slots, z]))⟩ (R.set i r)⟩
theorem dgs_nil : DGs b H0 X [] [] := ⟨pgs_imp pgs_nil fun v σ H Q ⟨σd, O, ds, R, r, q⟩ => by
  cases ds with
  | nil => exact ⟨r.of_nil, q σ (.refl _ _) R⟩
  | cons d ds => exact q.elim⟩
theorem dgs_cons {es : List Expr} {t : Tgt} {l : List Tgt} (h1 : DG b H0 X e t) (h2 : DGs b H0 X es l) (hs : (assignEach (e :: es) X.env).map (·.2) = assign e X.env :: (assignEach es X.env).map (·.2) := by rfl) : DGs b H0 X (e :: es) (t :: l) :=
  ⟨pgs_imp (pgs_cons h1.pg h2.pg hs) fun v σ H Q ⟨σd, O, ds, R, r, q⟩ => by
    cases ds with
    | nil => exact q.elim
    | cons d ds =>
      obtain ⟨w, vr, rfl, r1, r2⟩ := r.of_cons
      simp only [asgs] at q
      refine ⟨w, vr, rfl, σd, O, d, R, r1, asg_mn _ _ _ _ _ (fun s z σ' ag R' => ?_) q⟩
      refine ⟨s, O, ds, R', r2, asgs_mn _ _ _ _ _ (fun s2 z2 σ2 ag2 R2 => ?_) z⟩
      exact z2 σ2 (ag.trans ag2 fun j => by simp only [slotsL, List.mem_append]; exact id) R2⟩
theorem dg_tup {es : List Expr} {k : Nat} {l : List Tgt} {n : Nat} (hc : X.calm = true) (h : DGs b H0 X es l) (hl : l.length = n := by rfl)
    (hn : (assignEach es X.env).length = n := by rfl) (hst : (assignEach es X.env).findIdx? (·.1) = none := by rfl) : DG b H0 X (.Tuple es k pos) (.tp l) :=
  ⟨⟨fun pins s σ H v u Q I rv ⟨σd, O, d, R, r, q⟩ => by
    simp only [asg] at q
    cases d with
    | tup ds =>
      obtain ⟨a, vs, rfl, nb, hs, rs⟩ := r.tup
      obtain ⟨e, _⟩ := asgs_ex _ _ _ _ q
      exact (pg_tup (k := k) hc h.pg hn hst).run pins s σ H _ u Q I rv ⟨a, vs, rfl, sqT_mono hide_le nb hs, by rw [← rs.length, ← e, hl], σd, O, ds, R, rs, asgs_mn _ _ _ _ _ (fun s z σ' ag R' => z σ' (by simpa only [slots] using ag) R') q⟩
    | lst ds =>
      obtain ⟨a, vs, rfl, nb, hs, rs⟩ := r.lst
      obtain ⟨e, _⟩ := asgs_ex _ _ _ _ q
      exact (pg_lst (k := k) hc h.pg hn hst).run pins s σ H _ u Q I rv ⟨a, vs, rfl, sqL_mono hide_le nb hs, by rw [← rs.length, ← e, hl], σd, O, ds, R, rs, asgs_mn _ _ _ _ _ (fun s z σ' ag R' => z σ' (by simpa only [slots] using ag) R') q⟩
    | _ => exact q.elim⟩⟩
end
end DL
/-! DE2 -/
set_option Elab.async false
set_option linter.all false
set_option maxRecDepth 100000
set_option maxHeartbeats 4000000
/-! What is walked; for, while; list comprehensions. -/
namespace DL
open PySem PySem.Spec PyProof.Rows L2
variable [TabC]
abbrev GI := StD → (List D → Prop) → Prop
/-- J hands out these items, whatever is laid meanwhile -/
def Wlk (K : Fg) (b : Option Addr) (O : List Addr) (ds : List D) (J : It) (H1 : Hp) : Prop := ∀ (i : Nat) (H2 : Hp) (O2 : List Addr), Ext b (hide O H1) (hide O2 H2) → Fresh b O2 H2 →
  (∀ d, ds[i]? = some d → J.go i H2 ∧ ∀ x H3, J.yld i H2 x H3 → Ext b H2 H3 ∧ Rep K b (hide O2 H3) d x) ∧ (i = ds.length → J.stop i H2)
def LI (K : Fg) (b : Option Addr) (H0 : Hp) (g : GI) : TI := fun σ H Rr => ∃ σd O, Rst K b H0 σd σ H O ∧ g σd fun ds => ∀ J H', Ext b H H' → Wlk K b O ds J H' → Rr J H'
structure DI (b : Option Addr) (H0 : Hp) (X : Cx) (tg iter : Expr) (g : GI) : Prop where
  pi : PI X tg iter (LI X.K b H0 g)
  mn : Mn g
section
variable {X : Cx} {b : Option Addr} {H0 : Hp} {pos p : Pos} {tg l e : Expr} {ge ga : GE}
theorem pi_imp {t t' : TI} (h : PI X tg e t) (i : ∀ σ H Q, t' σ H Q → t σ H Q) : PI X tg e t' := ⟨fun pins s σ H R I q => h.run pins s σ H R I (i σ H R q)⟩
def gIt (ge : GE) : GI := fun σ k => ge σ fun d => match d with | .lst ds => k ds | .tup ds => k ds | .frl _ ds => k ds | _ => False
def gItL (ge : GE) : GI := fun σ k => ge σ fun d => match d with | .lst ds => k ds | _ => False
def gItT (ge : GE) : GI := fun σ k => ge σ fun d => match d with | .tup ds => k ds | _ => False
/-- range(n), range(a, b) -/
def rngD (lo : Int) (n : Nat) : List D := (List.range n).map fun (i : Nat) => .int (lo + (i : Int))
theorem rngD_get {lo : Int} {n i : Nat} {d : D} (h : (rngD lo n)[i]? = some d) : i < n ∧ d = .int (lo + i) := by
  unfold rngD at h
  rw [List.getElem?_map] at h
  cases e : (List.range n)[i]? with
  | none => rw [e] at h; cases h
  | some j =>
    obtain ⟨h1, h2⟩ := List.getElem?_eq_some_iff.mp e
    rw [e] at h; cases h
    simp at h1 h2
    exact ⟨h1, by rw [h2]⟩
theorem rngD_len {lo : Int} {n : Nat} : (rngD lo n).length = n := by unfold rngD; simp
theorem wlk_rng {K : Fg} {O : List Addr} {H1 : Hp} {lo : Int} {n : Nat} : Wlk K b O (rngD lo n) (Itr lo n) H1 := fun i H2 O2 x F => by
  refine ⟨fun d e => ?_, fun hi0 => by have hi := Nat.le_of_eq hi0.symm; rw [rngD_len] at hi; exact hi⟩
  obtain ⟨h1, rfl⟩ := rngD_get e
  refine ⟨h1, fun y H3 yl => ?_⟩
  obtain ⟨e1, e2⟩ := yl
  subst e1 e2
  exact ⟨.refl _, rfl⟩
def gRng1 (ge : GE) : GI := fun σ k => ge σ fun d => match d with | .int j => (-(2 ^ 62) ≤ j ∧ j < 2 ^ 62) ∧ k (rngD 0 j.toNat) | _ => False
theorem di_rng1 (hg : Gl X "range") (hm : X.mg "range" = none) (A : DT b H0 X e ge) (hs : starEach [e] X.env = [(false, eval e X.env)] := by rfl) (hs2 : starEach [e] X.env = (false, eval e X.env) :: starEach [] X.env := by rfl) : DI b H0 X tg (.Call (.Name "range" p) [e] [] pos) (gRng1 ge) :=
  ⟨pi_imp (pi_range1 hg hm (pa_cons A.pe pa_nil hs2) hs) fun σ H Q ⟨σd, O, R, q⟩ => ⟨σd, O, R, A.mn _ _ _ (fun d hd v H' x r => by
    cases d with
    | int j => exact ⟨j, by rw [r.int], hd.1.1, hd.1.2, hd.2 _ _ x wlk_rng⟩
    | _ => exact hd.elim) q⟩, fun σ k k' i q => A.mn _ _ _ (fun x hx => by cases x <;> first | exact ⟨hx.1, i _ hx.2⟩ | exact hx.elim) q⟩
def gRng2 (ga ge : GE) : GI := fun σ k => ga σ fun a => ge σ fun d => match a, d with | .int i, .int j => (-(2 ^ 62) ≤ i ∧ i < 2 ^ 62 ∧ -(2 ^ 62) ≤ j ∧ j < 2 ^ 62) ∧ k (rngD i (j - i).toNat) | _, _ => False
/-! ### for -/
def forD (t : Tgt) (gb : GSt) : List D → EndD → StD → Prop
  | [], D, σ => D.nx σ
  | d :: r, D, σ => asg t d σ fun σ2 => gb { nx := fun σ' => forD t gb r D σ', rt := D.rt, bk := D.nx, ct := fun σ' => forD t gb r D σ' } σ2
def gFor (gi : GI) (t : Tgt) (gb : GSt) : GSt := fun D σ => gi σ fun ds => forD t gb ds D σ
theorem forD_mn {t : Tgt} {gb : GSt} (B : MnD gb) : ∀ (ds : List D) (D D' : EndD) (σ : StD), (∀ σ, D.nx σ → D'.nx σ) → (∀ d, D.rt d → D'.rt d) → forD t gb ds D σ → forD t gb ds D' σ
  | [], D, D', σ, h1, h2, q => h1 σ q
  | d :: r, D, D', σ, h1, h2, q => asg_mn _ _ _ _ _ (fun s z => B { nx := fun σ' => forD t gb r D σ', rt := D.rt, bk := D.nx, ct := fun σ' => forD t gb r D σ' } _ _ (fun σ' q' => forD_mn B r D D' σ' h1 h2 q') h2 h1 (fun σ' q' => forD_mn B r D D' σ' h1 h2 q') z) q
theorem gFor_mn {gi : GI} {t : Tgt} {gb : GSt} (I : Mn gi) (B : MnD gb) : MnD (gFor gi t gb) := fun D D' σ h1 h2 h3 h4 q => I _ _ _ (fun ds z => forD_mn B ds D D' σ h1 h2 z) q
theorem ds_for {iter : Expr} {body : List Stmt} {gi : GI} {t : Tgt} {gb : GSt} (hp : PassesOwn (model X.prog X.w) X.A X.env X.xe) (hc : X.calm = true) (I : DI b H0 X tg iter gi) (G : DG b H0 X tg t) (B : DSs b H0 X body gb)
    (hs : ∀ x, foldedSetIterable iter X.env x = pure x := by intro _; rfl) : DS b H0 X (.For tg iter body [] pos) (gFor gi t gb) := by
  refine ⟨ps_imp (ps_for hp hc I.pi G.pg B.ps hs) fun D σ H ⟨σd, O, R, q⟩ => ?_, gFor_mn I.mn B.mn⟩
  refine ⟨σd, O, R, I.mn _ _ _ (fun ds hd J H1 x wk => ?_) q⟩
  have xO : Ext b (hide O H) (hide O H1) := R.hx x
  refine ⟨fun i m σ2 H2 => m = ds.length - i ∧ i ≤ ds.length ∧ ∃ σd2 O2, Rst X.K b H0 σd2 σ2 H2 O2 ∧ Ext b (hide O H1) (hide O2 H2) ∧ forD t gb (ds.drop i) (dn X.K b H0 (hide O H) D) σd2, ⟨ds.length, by simp, Nat.zero_le _, σd, O, R.mono x, .refl _, hd⟩, ?_⟩
  rintro i m σ2 H2 ⟨rfl, hi, σd2, O2, R2, x2, q2⟩
  have w := wk i H2 O2 x2 (fun p hp => R2.free hp)
  by_cases hlt : i < ds.length
  · have e : ds[i]? = some ds[i] := List.getElem?_eq_getElem hlt
    obtain ⟨go, yl⟩ := w.1 _ e
    refine .inr ⟨go, fun σ' H' => i + 1 ≤ ds.length ∧ ∃ σd2 O3, Rst X.K b H0 σd2 σ' H' O3 ∧ Ext b (hide O H1) (hide O3 H') ∧ forD t gb (ds.drop (i + 1)) (dn X.K b H0 (hide O H) D) σd2, fun σ' H' hN => ⟨ds.length - (i + 1), by omega, rfl, hN.1, hN.2⟩, fun y H3 hy => ?_⟩
    obtain ⟨x3, rv⟩ := yl y H3 hy
    have x4 : Ext b (hide O H1) (hide O2 H3) := x2.trans (R2.hx x3)
    rw [List.drop_eq_getElem_cons hlt] at q2
    refine ⟨σd2, O2, ds[i], R2.mono x3, rv, asg_mn _ _ _ _ _ (fun s z σ' ag R' => ?_) q2⟩
    refine ⟨s, O2, R', B.mn { nx := fun σ' => forD t gb (ds.drop (i + 1)) (dn X.K b H0 (hide O H) D) σ', rt := (dn X.K b H0 (hide O H) D).rt, bk := (dn X.K b H0 (hide O H) D).nx, ct := fun σ' => forD t gb (ds.drop (i + 1)) (dn X.K b H0 (hide O H) D) σ' } _ _ (fun σ5 w5 σ6 H6 O6 R6 x6 => ⟨hlt, σ5, O6, R6, x4.trans x6, w5⟩) (fun d w5 => w5) (fun σ5 w5 σ6 H6 O6 R6 x6 => w5 σ6 H6 O6 R6 (xO.trans (x4.trans x6))) (fun σ5 w5 σ6 H6 O6 R6 x6 => ⟨hlt, σ5, O6, R6, x4.trans x6, w5⟩) z⟩
  · have e : i = ds.length := by omega
    subst e
    rw [List.drop_length] at q2
    exact .inl ⟨w.2 rfl, q2 σ2 H2 O2 R2 (xO.trans x2)⟩
end
end DL
/-! DE3 -/
set_option Elab.async false
set_option linter.all false
set_option maxRecDepth 100000
set_option maxHeartbeats 4000000
/-! while; list comprehensions. -/
namespace DL
open PySem PySem.Spec PyProof.Rows L2
variable [TabC]
section
variable {X : Cx} {b : Option Addr} {H0 : Hp} {pos p : Pos} {tg l e : Expr} {ge ga : GE}
/-! ### list comprehensions -/
def wipeD (σ : StD) : List Nat → StD
  | [] => σ
  | v :: vs => put (wipeD σ vs) v .unset
theorem getD_setN {σ : L2.St} {i j : Nat} : (σ.set i none).getD j none = if j = i then none else σ.getD j none := by
  rw [List.getD_eq_getElem?_getD, List.getD_eq_getElem?_getD]
  by_cases h : i = j
  · subst h
    rw [if_pos rfl]
    by_cases hl : i < σ.length
    · rw [List.getElem?_set_self hl]; rfl
    · rw [List.getElem?_eq_none (by simpa using hl)]; rfl
  · rw [List.getElem?_set_ne h, if_neg (fun z => h z.symm)]
theorem tab_upd {H : Hp} {p : Addr} {o o' : HO} {P : Addr} {q : Str} (hq : H p = some o') (n1 : nt o' = true) (n2 : ∀ c q, o' ≠ LamX.CodeO c q) (t : LamX.TabS H P q) : LamX.TabS (upd H p o) P q := by
  obtain ⟨ps, h1, h2, h3⟩ := t
  refine ⟨ps, ?_, h2, fun pos cv hc => ?_⟩
  · rw [upd_ne (fun z => by rw [z, hq] at h1; cases h1; cases n1)]; exact h1
  · obtain ⟨c, e1, e2⟩ := h3 pos cv hc
    exact ⟨c, e1, by rw [upd_ne (fun z => by rw [z, hq] at e2; cases e2; exact n2 _ _ rfl)]; exact e2⟩
theorem ext_upd_new {H1 H : Hp} {p : Addr} {o : HO} (x : Ext b H1 H) (hp : H1 p = none) (hq : ∃ xs, H p = some (.lst xs)) : Ext b H1 (upd H p o) := ⟨fun a u n h t => by rw [upd_ne (ne_of_none h hp)]; exact x.1 a u n h t, fun a e c i j m h h0 => by rw [upd_ne (ne_of_none h hp)]; exact x.2.1 a e c i j m h h0,
  fun t => by
    obtain ⟨xs, hq⟩ := hq
    exact fun p hp => tab_upd hq rfl (fun c q z => by unfold LamX.CodeO at z; cases z) (x.2.2 t p hp)⟩
theorem Rst.wipe1 {K : Fg} {σd : StD} {σ : L2.St} {H : Hp} {O : List Addr} (R : Rst K b H0 σd σ H O) (i : Nat) : Rst K b H0 (put σd i .unset) (σ.set i none) H O where
  len := by rw [put_length, List.length_set]; exact R.len
  slot := fun j => by
    rw [look_put2]
    by_cases h : j = i ∧ i < σd.length
    · rw [if_pos h]; trivial
    · rw [if_neg h, getD_setN]
      by_cases e : j = i
      · have o : σd.length ≤ j := by omega
        rw [look_out o]; trivial
      · rw [if_neg e]; exact R.slot j
  uniq := fun j k a h1 h2 => by
    rw [look_put2] at h1 h2
    rw [getD_setN] at h1 h2
    by_cases ej : j = i
    · rw [if_pos ej] at h1
      split at h1 <;> first | exact h1.elim | (rename_i hh; rw [look_out (by omega)] at h1; exact h1.elim)
    · by_cases ek : k = i
      · rw [if_pos ek] at h2
        split at h2 <;> first | exact h2.elim | (rename_i hh; rw [look_out (by omega)] at h2; exact h2.elim)
      · rw [if_neg ej, if_neg (fun z => ej z.1)] at h1
        rw [if_neg ek, if_neg (fun z => ek z.1)] at h2
        exact R.uniq j k a h1 h2
  nb := R.nb
  le := R.le
  bg := R.bg
theorem Rst.wipe {K : Fg} {σd : StD} {σ : L2.St} {H : Hp} {O : List Addr} (R : Rst K b H0 σd σ H O) : ∀ vs : List Nat, Rst K b H0 (wipeD σd vs) (L2.wipe σ vs) H O
  | [] => R
  | v :: vs => (Rst.wipe R vs).wipe1 v
theorem wipe_get {σ : L2.St} (j : Nat) : ∀ vs : List Nat, (L2.wipe σ vs)[j]? = if j ∈ vs then (if j < σ.length then some none else none) else σ[j]?
  | [] => by simp [L2.wipe]
  | v :: vs => by
    unfold L2.wipe
    by_cases e : v = j
    · subst e
      by_cases hl : v < σ.length
      · rw [List.getElem?_set_self (by rw [wipe_length]; exact hl)]; simp [hl]
      · rw [List.getElem?_eq_none (by simp [wipe_length]; omega)]; simp [hl]
    · rw [List.getElem?_set_ne e, wipe_get j vs]
      have e' : ¬ j = v := fun z => e z.symm
      simp [e']
theorem wipe_agree {σ σ' : L2.St} {vs l : List Nat} (h : Agree (L2.wipe σ vs) σ' l) (hl : ∀ j ∈ l, j ∈ vs) : L2.wipe σ' vs = L2.wipe σ vs := by
  apply List.ext_getElem?
  intro j
  rw [wipe_get, wipe_get]
  have e : σ'.length = σ.length := by rw [h.1, wipe_length]
  by_cases m : j ∈ vs
  · rw [if_pos m, if_pos m, e]
  · rw [if_neg m, if_neg m]
    have z := h.2 j (fun z => m (hl j z))
    rw [wipe_get, if_neg m] at z
    exact z
def gYes : GT := fun _ k => k true
structure DTs (b : Option Addr) (H0 : Hp) (X : Cx) (ifs : List Expr) (g : GT) : Prop where
  pts : PTs X ifs (LB X.K b H0 g)
  mn : Mn g
theorem pts_imp {ifs : List Expr} {t t' : TT} (h : PTs X ifs t) (i : ∀ σ H Q, t' σ H Q → t σ H Q) : PTs X ifs t' := ⟨fun pins s σ H Q I q => h.run pins s σ H Q I (i σ H Q q)⟩
theorem dts_nil : DTs b H0 X [] gYes := ⟨pts_imp pts_nil fun σ H Q ⟨σd, O, R, q⟩ => q H (.refl H), fun σ k k' i q => i _ q⟩
def lcD (t : Tgt) (gt : GT) (ge : GE) (σ : StD) : List D → List D → (D → Prop) → Prop
  | [], acc, k => k (.lst acc)
  | d :: r, acc, k => asg t d σ fun σ2 => gt σ2 fun c => match c with
    | true => ge σ2 fun y => acc.length < 1000000 ∧ lcD t gt ge σ r (acc ++ [y]) k
    | false => lcD t gt ge σ r acc k
def gLc (gi : GI) (t : Tgt) (gt : GT) (ge : GE) (vs : List Nat) : GE := fun σ k => gi σ fun ds => lcD t gt ge (wipeD σ vs) ds [] k
theorem lcD_mn {t : Tgt} {gt : GT} {ge : GE} {σ : StD} (T : Mn gt) (E : Mn ge) : ∀ (ds acc : List D) (k k' : D → Prop), (∀ d, k d → k' d) → lcD t gt ge σ ds acc k → lcD t gt ge σ ds acc k'
  | [], acc, k, k', h, q => h _ q
  | d :: r, acc, k, k', h, q => asg_mn _ _ _ _ _ (fun s z => T _ _ _ (fun c w => by
    cases c
    · exact lcD_mn T E r acc k k' h w
    · exact E _ _ _ (fun y v => ⟨v.1, lcD_mn T E r _ k k' h v.2⟩) w) z) q
theorem gLc_mn {gi : GI} {t : Tgt} {gt : GT} {ge : GE} {vs : List Nat} (I : Mn gi) (T : Mn gt) (E : Mn ge) : Mn (gLc gi t gt ge vs) := fun σ k k' i q => I _ _ _ (fun ds z => lcD_mn T E ds [] k k' i z) q
theorem ext_hide_new {O : List Addr} {H1 H : Hp} {p : Addr} (x : Ext b H1 H) (hp : H1 p = none) (hO : ∀ a ∈ O, some a ≠ b ∧ Hid O H1 a) (hh : Hid (p :: O) H p) : Ext b (hide O H1) (hide (p :: O) H) := by
  refine ⟨fun a o n e t => ?_, fun a e c i j m h h0 => ?_, fun t => ?_⟩
  · obtain ⟨h1, h2⟩ := of_hide e
    rw [hide_out (by simp only [List.mem_cons, not_or]; exact ⟨ne_of_none h2 hp, h1⟩)]
    exact x.1 a o n h2 t
  · obtain ⟨h1, h2⟩ := of_hide h
    rw [hide_out (by simp only [List.mem_cons, not_or]; exact ⟨ne_of_none h2 hp, h1⟩)]
    exact x.2.1 a e c i j m h2 h0
  · refine tabs_hide (fun a m => ?_) (x.2.2 (tabs_unhide t))
    rcases List.mem_cons.mp m with rfl | m
    · exact hh.nt
    · obtain ⟨n, h⟩ := hO a m
      obtain ⟨o, e, t1, t2⟩ := h.nt
      exact ⟨o, x.1 a o n e t1, t1, t2⟩
theorem Rst.addO {K : Fg} {σd : StD} {σ : L2.St} {H1 H : Hp} {O : List Addr} {p : Addr} (R : Rst K b H0 σd σ H1 O) (x : Ext b H1 H) (hp : H1 p = none) (h : Hid (p :: O) H p) : Rst K b H0 σd σ H (p :: O) := by
  have R2 := R.mono x
  have hpO := (R.free hp).1
  have hpb := (R.free hp).2
  have xn : Ext b (hide O H1) (hide (p :: O) H) := ext_hide_new x hp (fun a m => ⟨(R.nb a m).1, (R.nb a m).2.2⟩) h
  refine ⟨R.len, fun i => ?_, R.uniq, fun a m => ?_, R.le.trans xn, R.bg.ext xn⟩
  · have s := R.slot i
    have l : Le b (hide O H1) (hide (p :: O) H) := xn.1
    cases e : look σd i with
    | unset => trivial
    | sh d => rw [e] at s; obtain ⟨v, e1, r⟩ := s; exact ⟨v, e1, r.mono l⟩
    | own ds => rw [e] at s; obtain ⟨a, vs, e1, m, h1, r⟩ := s; exact ⟨a, vs, e1, List.mem_cons_of_mem _ m, x.1 _ _ (R.nb a m).1 h1 rfl, r.mono l⟩
    | gho a ds => rw [e] at s; obtain ⟨vs, m, h1, r⟩ := s; exact ⟨vs, List.mem_cons_of_mem _ m, x.1 _ _ (R.nb a m).1 h1 rfl, r.mono l⟩
    | owd kx ds => rw [e] at s; obtain ⟨a, vs, e1, m, h1, r⟩ := s; exact ⟨a, vs, e1, List.mem_cons_of_mem _ m, x.1 _ _ (R.nb a m).1 h1 rfl, r.mono l⟩
    | ott kx ds => rw [e] at s; obtain ⟨a, vs, e1, m, h1, r⟩ := s; exact ⟨a, vs, e1, List.mem_cons_of_mem _ m, x.1 _ _ (R.nb a m).1 h1 rfl, r.mono l⟩
    | obj a dx c ns ds => rw [e] at s; obtain ⟨vs, e1, m, md, h1, h2, l2, r⟩ := s; exact ⟨vs, e1, List.mem_cons_of_mem _ m, List.mem_cons_of_mem _ md, x.1 _ _ (R.nb a m).1 h1 rfl, x.1 _ _ (R.nb dx md).1 h2 rfl, l2, r.mono l⟩
  · rcases List.mem_cons.mp m with rfl | m
    · exact ⟨hpb, trivial, h⟩
    · obtain ⟨n1, n2, n3⟩ := R2.nb a m
      refine ⟨n1, n2, ?_⟩
      obtain ⟨o, e, n3⟩ := n3
      refine ⟨o, e, ?_⟩
      cases o <;> first | exact n3.elim | exact List.mem_cons_of_mem _ n3 | exact ⟨List.mem_cons_of_mem _ n3.1, n3.2⟩ | trivial
/-- the owned list at p grows: what else is read stands -/
theorem Rst.updO {K : Fg} {σd : StD} {σ : L2.St} {H : Hp} {O : List Addr} {p : Addr} {xs : List V} (R : Rst K b H0 σd σ H O) (hp : p ∈ O) (ne : ∀ i a, Owns (look σd i) (σ.getD i none) a → a ≠ p) (ex : ∃ ys, H p = some (.lst ys)) : Rst K b H0 σd σ (upd H p (.lst xs)) O := by
  obtain ⟨ys, ex⟩ := ex
  refine ⟨R.len, fun i => ?_, R.uniq, fun a m => ?_, by rw [hide_upd hp]; exact R.le, by rw [hide_upd hp]; exact R.bg⟩
  · have s := R.slot i
    have w := ne i
    cases e : look σd i with
    | unset => trivial
    | sh d => rw [e] at s; obtain ⟨v, e1, r⟩ := s; exact ⟨v, e1, by rw [hide_upd hp]; exact r⟩
    | own ds =>
      rw [e] at s w
      obtain ⟨a, vs, e1, m, h1, r⟩ := s
      exact ⟨a, vs, e1, m, by rw [upd_ne (w a (by rw [e1]; rfl))]; exact h1, by rw [hide_upd hp]; exact r⟩
    | gho a ds =>
      rw [e] at s w
      obtain ⟨vs, m, h1, r⟩ := s
      exact ⟨vs, m, by rw [upd_ne (w a (by exact rfl))]; exact h1, by rw [hide_upd hp]; exact r⟩
    | owd kx ds =>
      rw [e] at s w
      obtain ⟨a, vs, e1, m, h1, r⟩ := s
      exact ⟨a, vs, e1, m, by rw [upd_ne (w a (by rw [e1]; rfl))]; exact h1, by rw [hide_upd hp]; exact r⟩
    | ott kx ds =>
      rw [e] at s w
      obtain ⟨a, vs, e1, m, h1, r⟩ := s
      exact ⟨a, vs, e1, m, by rw [upd_ne (w a (by rw [e1]; rfl))]; exact h1, by rw [hide_upd hp]; exact r⟩
    | obj a dx c ns ds =>
      rw [e] at s w
      obtain ⟨vs, e1, m, md, h1, h2, l2, r⟩ := s
      have hdx : dx ≠ p := fun z => by rw [z, ex] at h2; cases h2
      exact ⟨vs, e1, m, md, by rw [upd_ne (w a (by rw [e1]; rfl))]; exact h1, by rw [upd_ne hdx]; exact h2, l2, by rw [hide_upd hp]; exact r⟩
  · obtain ⟨n1, n2, n3⟩ := R.nb a m
    refine ⟨n1, n2, ?_⟩
    by_cases e : a = p
    · subst e; exact ⟨_, upd_same, trivial⟩
    · obtain ⟨o, e2, n3⟩ := n3
      refine ⟨o, by rw [upd_ne e]; exact e2, ?_⟩
      cases o <;> first | exact n3 | (obtain ⟨q1, C, fs, q2⟩ := n3; exact ⟨q1, C, fs, by rw [upd_ne (fun z => by rw [z, ex] at q2; cases q2)]; exact q2⟩)
end
section
variable {X : Cx} {b : Option Addr} {H0 : Hp} {elt tg iter : Expr} {ifs : List Expr} {scope : Scope} {own : List (Str × Nat)} {pos : Pos} {gi : GI} {t : Tgt} {gt : GT} {ge : GE}
theorem lc_run {σ : L2.St} {H : Hp} {Q : VK} (I : Mn gi) (T : Mn gt) (E : Mn ge) (hsl : ∀ j ∈ slots t, j ∈ own.map (·.2)) (h : LE X.K b H0 (gLc gi t gt ge (own.map (·.2))) σ H Q) :
    tLc (LI X.K b H0 gi) (LG X.K b H0 t) (LB X.K b H0 gt) (LE X.K b H0 ge) (own.map (·.2)) σ H Q := by
  obtain ⟨σd, O, R, q⟩ := h
  refine ⟨σd, O, R, I _ _ _ (fun ds hd J H1 x1 wk => ?_) q⟩
  intro Dd hD
  have R1 := R.mono x1
  have hDO := (R1.free hD).1
  have hDb := (R1.free hD).2
  -- the invariant
  refine ⟨fun i m H2 => m = ds.length - i ∧ i ≤ ds.length ∧ ∃ acc accv, H2 Dd = some (.lst accv) ∧ Reps X.K b (hide (Dd :: O) H2) acc accv ∧ Rst X.K b H0 (wipeD σd (own.map (·.2))) (L2.wipe σ (own.map (·.2))) H2 (Dd :: O) ∧ Ext b H1 H2 ∧
    lcD t gt ge (wipeD σd (own.map (·.2))) (ds.drop i) acc (fun d => ∀ v H', Ext b H H' → Rep X.K b (hide O H') d v → Q v H'), ⟨ds.length, by simp, Nat.zero_le _, [], [], upd_same, Reps.nil, ?_, .new hD, hd⟩, ?_⟩
  · exact ((R1.addO (.new hD) hD ⟨_, upd_same, trivial⟩).wipe _)
  rintro i m H2 ⟨rfl, hi, acc, accv, hacc, racc, R2, x2, q2⟩
  have x3 : Ext b (hide O H1) (hide (Dd :: O) H2) := ext_hide_new x2 hD (fun a m => ⟨(R1.nb a m).1, (R1.nb a m).2.2⟩) ⟨_, hacc, trivial⟩
  have w := wk i H2 (Dd :: O) x3 (fun p hp => R2.free hp)
  by_cases hlt : i < ds.length
  · have e : ds[i]? = some ds[i] := List.getElem?_eq_getElem hlt
    obtain ⟨go, yl⟩ := w.1 _ e
    refine .inr ⟨go, fun H' => i + 1 ≤ ds.length ∧ ∃ acc accv, H' Dd = some (.lst accv) ∧ Reps X.K b (hide (Dd :: O) H') acc accv ∧ Rst X.K b H0 (wipeD σd (own.map (·.2))) (L2.wipe σ (own.map (·.2))) H' (Dd :: O) ∧ Ext b H1 H' ∧
      lcD t gt ge (wipeD σd (own.map (·.2))) (ds.drop (i + 1)) acc (fun d => ∀ v H', Ext b H H' → Rep X.K b (hide O H') d v → Q v H'), fun H' hN => ⟨ds.length - (i + 1), by omega, rfl, hN.1, hN.2⟩, fun y H3 hy => ?_⟩
    obtain ⟨x4, rv⟩ := yl y H3 hy
    rw [List.drop_eq_getElem_cons hlt] at q2
    refine ⟨_, Dd :: O, ds[i], R2.mono x4, rv, asg_mn _ _ _ _ _ (fun s z σ' ag R' => ?_) q2⟩
    refine ⟨wipe_agree ag hsl, s, Dd :: O, R', T _ _ _ (fun c hc H5 x5 => ?_) z⟩
    have R5 := R'.mono x5
    have x45 := x4.trans x5
    have hacc5 : H5 Dd = some (.lst accv) := x45.1 _ _ hDb hacc rfl
    have racc5 : Reps X.K b (hide (Dd :: O) H5) acc accv := racc.mono (x45.1.hide _)
    cases c with
    | true =>
      refine iteT ?_
      refine ⟨s, Dd :: O, R5, E _ _ _ (fun d hd v H6 x6 r6 => ?_) hc⟩
      have hacc6 : H6 Dd = some (.lst accv) := x6.1 _ _ hDb hacc5 rfl
      refine ⟨accv, hacc6, by rw [← racc.length]; exact Nat.lt_of_lt_of_le hd.1 (by decide), hlt, acc ++ [d], accv ++ [v], upd_same, ?_, ?_, ?_, hd.2⟩
      · rw [hide_upd List.mem_cons_self]
        exact (racc5.mono (x6.1.hide _)).append (Reps.cons r6 Reps.nil)
      · refine ((R2.mono (x45.trans x6)).updO List.mem_cons_self (fun i a ow z => ?_) ⟨_, hacc6⟩)
        subst z
        -- a slot owns Dd: no slot's list was Dd, for Dd came later
        have sl := ((R1.wipe (own.map (·.2))).slot i)
        cases e1 : look (wipeD σd (own.map (·.2))) i with
        | unset => rw [e1] at ow; exact ow.elim
        | sh d => rw [e1] at ow; exact ow.elim
        | own ds =>
          rw [e1] at ow sl
          obtain ⟨a', vs, e2, m, _⟩ := sl
          rw [e2] at ow
          have : a = a' := ow
          exact hDO (this ▸ m)
        | gho a' ds =>
          rw [e1] at ow sl
          obtain ⟨vs, m, _⟩ := sl
          have : a = a' := ow
          exact hDO (this ▸ m)
        | owd kx ds =>
          rw [e1] at ow sl
          obtain ⟨a', vs, e2, m, _⟩ := sl
          rw [e2] at ow
          have : a = a' := ow
          exact hDO (this ▸ m)
        | ott kx ds =>
          rw [e1] at ow sl
          obtain ⟨a', vs, e2, m, _⟩ := sl
          rw [e2] at ow
          have : a = a' := ow
          exact hDO (this ▸ m)
        | obj a' dx c ns ds =>
          rw [e1] at ow sl
          obtain ⟨vs, e2, m, _⟩ := sl
          rw [e2] at ow
          have : a = a' := ow
          exact hDO (this ▸ m)
      · exact ext_upd_new (x2.trans (x45.trans x6)) hD ⟨_, hacc6⟩
    | false =>
      refine iteF ?_
      exact ⟨hlt, acc, accv, hacc5, racc5, R2.mono x45, x2.trans x45, hc⟩
  · have e : i = ds.length := by omega
    subst e
    rw [List.drop_length] at q2
    refine .inl ⟨w.2 rfl, q2 _ H2 (x1.trans x2) ?_⟩
    exact Rep.mkLst hDb (.inl (.inl (by rw [hide_out hDO]; exact hacc))) (racc.mono (hide_mono fun a m => List.mem_cons_of_mem _ m))
end
end DL
/-! DE4 -/
set_option Elab.async false
set_option linter.all false
set_option maxRecDepth 100000
set_option maxHeartbeats 4000000
/-! Comprehensions as expressions; calls; a def by its body. -/
namespace DL
open PySem PySem.Spec PyProof.Rows L2
variable [TabC]
noncomputable def sh0 : Shared := ⟨default, #[], PySem.W.boot_drawn, 0, default⟩
section
variable {X : Cx} {b : Option Addr} {H0 : Hp} {elt tg iter : Expr} {ifs : List Expr} {scope : Scope} {own : List (Str × Nat)} {pos : Pos} {gi : GI} {t : Tgt} {gt : GT} {ge : GE}
theorem de_lc (hc : X.calm = true) (hN : X.N.Nodup) (I : DI b H0 X tg iter gi) (ok : BlkOk X.N X.env.scope scope own)
    (G : ∀ (s : Shared) (H : Hp) (C : Addr) (cl : List (Str × Addr)) (fp : List Addr), DG b H0 (X.blk s H scope (compEnvC scope cl C X.env) fp) tg t) (T : ∀ (s : Shared) (H : Hp) (C : Addr) (cl : List (Str × Addr)) (fp : List Addr), DTs b H0 (X.blk s H scope (compEnvC scope cl C X.env) fp) ifs gt)
    (E : ∀ (s : Shared) (H : Hp) (C : Addr) (cl : List (Str × Addr)) (fp : List Addr), DE b H0 (X.blk s H scope (compEnvC scope cl C X.env) fp) elt ge) (hsl : ∀ j ∈ slots t, j ∈ own.map (·.2) := by decide) (hs : ∀ x, foldedSetIterable iter X.env x = pure x := by intro _; rfl) :
    DE b H0 X (.ListComp elt [⟨tg, iter, ifs, 0⟩] scope pos) (gLc gi t gt ge (own.map (·.2))) :=
  ⟨pe_imp (pe_lc (g := LG X.K b H0 t) (tt := LB X.K b H0 gt) (te := LE X.K b H0 ge) hc hN I.pi ok (fun s H C cl fp => (G s H C cl fp).pg) (fun s H C cl fp => (T s H C cl fp).pts) (fun s H C cl fp => (E s H C cl fp).pe) hs) fun σ H Q h =>
    lc_run I.mn (T sh0 (fun _ => none) 0 [] []).mn (E sh0 (fun _ => none) 0 [] []).mn hsl h,
    gLc_mn I.mn (T sh0 (fun _ => none) 0 [] []).mn (E sh0 (fun _ => none) 0 [] []).mn⟩
end
/-! ### calls of the program's own -/
section
variable {X : Cx} {b : Option Addr} {H0 : Hp} {E : XK} {eo : XD → Prop} {s : GS} {k : Nat} {f C : Addr} {fd : FuncData} {ps : List Str} {dd : List D} {dvs : List V} {dus : List Value} {x m : Str} {p pos apos : Pos} {e o : Expr} {es : List Expr} {ga : GA} {go : GE}
/-- s: the callee's promise; dd: the defaults that fill up -/
def gCall (s : GS) (dd : List D) (eo : XD → Prop) (ga : GA) : GE := fun σ k => ga σ fun ds => s (ds ++ dd) k eo
/-- o.m(..), o an instance of the class c -/
def gMeth (c : Str) (m : Str) (s : GS) (dd : List D) (eo : XD → Prop) (go : GE) (ga : GA) : GE := fun σ k => go σ fun d => match d with
  | .ins c' ns ds => c' = c ∧ m ∉ ns ∧ ga σ fun es => s (.ins c' ns ds :: (es ++ dd)) k eo
  | _ => False
end
/-! ### a def keeps its promise, by its body -/
def startD (N : List Str) (ds : List D) : StD := ds.map SD.sh ++ List.replicate (N.length - ds.length) SD.unset
theorem hide_nil (H : Hp) : hide [] H = H := by
  funext a
  exact if_neg (by simp)
theorem look_app : ∀ (l r : StD) (i : Nat), look (l ++ r) i = if i < l.length then look l i else look r (i - l.length)
  | [], r, i => by simp
  | x :: l, r, 0 => by simp [look]
  | x :: l, r, i + 1 => by
    simp only [List.cons_append, look, List.length_cons]
    rw [look_app l r i]
    by_cases h : i < l.length
    · rw [if_pos h, if_pos (by omega)]
    · rw [if_neg h, if_neg (by omega)]
      congr 1
      omega
theorem look_rep : ∀ (n i : Nat), look (List.replicate n SD.unset) i = .unset
  | 0, _ => rfl
  | n + 1, 0 => rfl
  | n + 1, i + 1 => look_rep n i
theorem look_sh : ∀ {ds : List D} {i : Nat}, i < ds.length → ∃ d, ds[i]? = some d ∧ look (ds.map SD.sh) i = .sh d
  | [], _, h => by simp at h
  | d :: r, 0, _ => ⟨d, rfl, rfl⟩
  | d :: r, i + 1, h => by
    obtain ⟨d', e1, e2⟩ := look_sh (ds := r) (i := i) (by simpa using h)
    exact ⟨d', by simpa using e1, e2⟩
theorem rst_start {K : Fg} {b : Option Addr} {H : Hp} {N : List Str} {ds : List D} {vs : List V} (bg : Bg b H) (r : Reps K b H ds vs) : Rst K b H (startD N ds) (L2.start N vs) H [] where
  len := by simp [startD, L2.start, r.length]
  slot := fun i => by
    unfold startD
    rw [look_app, List.length_map]
    by_cases h : i < ds.length
    · rw [if_pos h]
      obtain ⟨d, e1, e2⟩ := look_sh h
      rw [e2]
      obtain ⟨v, e3, rv⟩ := r.get e1
      refine ⟨v, ?_, by rw [hide_nil]; exact rv⟩
      unfold L2.start
      rw [List.getD_eq_getElem?_getD, List.getElem?_append_left (by rw [List.length_map, ← r.length]; exact h), List.getElem?_map, e3]
      rfl
    · rw [if_neg h, look_rep]; trivial
  uniq := fun i j a h1 _ => by
    unfold startD at h1
    rw [look_app, List.length_map] at h1
    by_cases h : i < ds.length
    · rw [if_pos h] at h1
      obtain ⟨d, e1, e2⟩ := look_sh h
      rw [e2] at h1; exact h1.elim
    · rw [if_neg h, look_rep] at h1; exact h1.elim
  nb := fun a m => by cases m
  le := by rw [hide_nil]; exact .refl H
  bg := by rw [hide_nil]; exact bg
/-- what a body is handed: its ends -/
abbrev fin (k : D → Prop) : EndD := { nx := fun _ => k .non, rt := k }
section
variable {P : Program} {w : World} {K : Fg} {mg : Str → Option Value} {base : Heap} {x qual : Str} {params : Arguments} {body : List Stmt} {scope : Scope} {dvs : List V} {kws : List (Str × V)} {f : Addr} {fd : FuncData}
theorem okD {N ps : List Str} {k : Nat} {s : GS} (F : FunD K x qual params body scope dvs kws f fd) (S : FnScope N ps scope) (hl : ∀ ds k e, s ds k e → ds.length = ps.length)
    (hbody : ∀ (cdv : Value) (A : Around) (outer : List Env) (s0 : Shared) (H : Hp) (E : XK) (b : Option Addr) (eo : XD → Prop), Room k (A.deeper (envOfC qual scope s0.heap.objs.size f cdv)) → Cz (cxOf (L2.CX P w) P w K mg base N qual scope f cdv A outer s0 H E) b H E eo →
      ∃ g, DSs b H (cxOf (L2.CX P w) P w K mg base N qual scope f cdv A outer s0 H E) body g ∧ ∀ ds k, s ds k eo → g (fin k) (startD N ds)) : FnOk P w K mg base (L2.CX P w) (k + 1) f fd ps (lift K s) := by
  refine F.ok S (fun vs H Q E ⟨b, ds, _, r, h⟩ => by rw [← r.length]; exact hl _ _ _ h) fun cdv A outer s0 H vs Q E hr ⟨b, ds, bg, r, h⟩ => ?_
  obtain ⟨g, dg, rd⟩ := hbody cdv A outer s0 H E b (fun x => ∀ cls d H', Ext b H H' → XAt K b H' x cls d → E cls d H') hr ⟨passes_call (takes_of rfl rfl rfl rfl) fun _ _ _ _ z => z, fun x cls d H' z x1 xa => z cls d H' x1 xa⟩
  refine ⟨_, dg.ps, startD N ds, [], rst_start bg r, dg.mn (fin _) _ _ (fun σ q σ' H' O R x1 => ?_) (fun d q v H' x1 r1 => q v H' x1 r1) (fun σ q => q.elim) (fun σ q => q.elim) (rd ds _ h)⟩
  have z : ∀ v H', Ext b H H' → Rep K b H' .non v → Q v H' := q
  exact z .non H' (R.ret (.refl H')) rfl
end
end DL
/-! DE5 -/
set_option Elab.async false
set_option linter.all false
set_option maxRecDepth 100000
set_option maxHeartbeats 4000000
/-! What is owned, pinned while something else runs; new instances; fields. -/
namespace DL
open PySem PySem.Spec PyProof.Rows L2
variable [TabC]
section
variable {X : Cx} {b : Option Addr} {H0 : Hp} {pins : List (Addr × Obj)} {σ σ2 : L2.St} {σd : StD} {H : Hp} {s0 s' : Shared} {O : List Addr}
/-! ### a new instance -/
/-- an __init__ over data: the class, what stands so far, the arguments; what stands behind -/
abbrev GSI := Str → List Str → List D → List D → (List Str → List D → Prop) → (XD → Prop) → Prop
variable {E : XK} {eo : XD → Prop} {s : GSI} {k : Nat} {f : Addr} {fd : FuncData} {ps : List Str} {ds dd : List D} {vs dvs : List V} {us dus : List Value} {Q : VK} {c : Str}
end
section
variable {X : Cx} {b : Option Addr} {H0 : Hp} {E : XK} {eo : XD → Prop} {s : GSI} {k : Nat} {f : Addr} {fd : FuncData} {ps : List Str} {dd : List D} {dvs : List V} {dus : List Value} {x c : Str} {p pos apos : Pos} {e o : Expr} {es : List Expr} {ga : GA} {ge go : GE}
def gMake (c : Str) (s : GSI) (dd : List D) (eo : XD → Prop) (ga : GA) : GE := fun σ k => ga σ fun ds => s c [] [] (ds ++ dd) (fun ns fs => k (.ins c ns fs)) eo
/-! ### fields -/
def gFld (c : Str) (NS : List Str) (i : Nat) (ge : GE) : GE := fun σ k => ge σ fun d => match d with
  | .ins c' ns ds => c' = c ∧ ns = NS ∧ (match ds[i]? with | some d => k d | none => False)
  | _ => False
theorem lookup_zip {m : Str} : ∀ {ns : List Str} {vs : List V} {i : Nat} {v : V}, ns.Nodup → ns[i]? = some m → vs[i]? = some v → (ns.zip vs).lookup m = some v
  | [], _, _, _, _, h, _ => by simp at h
  | _ :: _, [], _, _, _, _, h => by simp at h
  | n :: ns, v :: vs, 0, _, _, h1, h2 => by
    simp at h1 h2
    subst h1 h2
    simp [List.lookup]
  | n :: ns, v :: vs, i + 1, _, nd, h1, h2 => by
    have h1' : ns[i]? = some m := by simpa using h1
    have hne : ¬ m = n := fun z => (List.nodup_cons.mp nd).1 (z ▸ List.mem_of_getElem? h1')
    simp only [List.zip_cons_cons, List.lookup]
    rw [show (m == n) = false by simpa using hne]
    exact lookup_zip (List.nodup_cons.mp nd).2 h1' (by simpa using h2)
end
end DL
/-! DE6 -/
set_option Elab.async false
set_option linter.all false
set_option maxRecDepth 100000
set_option maxHeartbeats 4000000
/-! __init__: the instance under construction. -/
namespace DL
open PySem PySem.Spec PyProof.Rows L2
variable [TabC]
/-! ### __init__ keeps its promise, by its body -/
def initD (N : List Str) (a dx : Addr) (c : Str) (ns : List Str) (fs ds : List D) : StD := .obj a dx c ns fs :: (ds.map SD.sh ++ List.replicate (N.length - (ds.length + 1)) SD.unset)
end DL
/-! DE7 -/
set_option Elab.async false
set_option linter.all false
set_option maxRecDepth 100000
set_option maxHeartbeats 4000000
/-! More operations: == of any data, in, isinstance, slices, join, chains, constants of classes. -/
namespace DL
open PySem PySem.Spec PyProof.Rows L2
variable [TabC]
/-! ### == -/
/-- flat values -/
def flatD : D → Bool
  | .non => true | .bl _ => true | .int _ => true | .str _ => true | _ => false
def eqF : D → D → Bool
  | .non, .non => true
  | .bl a, .bl b => a == b
  | .bl a, .int b => (if a then 1 else 0) == b
  | .int a, .bl b => a == (if b then 1 else 0)
  | .int a, .int b => a == b
  | .str a, .str b => a == b
  | _, _ => false
def isBl : D → Bool | .bl _ => true | _ => false
def isIn : D → Bool | .int _ => true | _ => false
def sclD (x y : D) : Bool := flatD x && flatD y && !(isBl x && isIn y) && !(isIn x && isBl y)
def dEqA (neg : Bool) : D → D → (D → Prop) → Prop := fun x y k => bif sclD x y then k (.bl (if neg then !eqF x y else eqF x y)) else dEq neg x y k
section
variable {X : Cx} {b : Option Addr} {H0 : Hp} {a c e : Expr} {ga gb gc : GE} {pos : Pos}
theorem dEqA_mn (neg : Bool) : ∀ x y (k k' : D → Prop), (∀ d, k d → k' d) → dEqA neg x y k → dEqA neg x y k' := by
  intro x y k k' i q
  unfold dEqA at q ⊢
  cases s : sclD x y
  · rw [s] at q
    have q : dEq neg x y k := q
    show dEq neg x y k'
    unfold dEq at q ⊢
    cases e1 : toPy x <;> cases e2 : toPy y <;> rw [e1, e2] at q <;> first | exact ⟨q.1, q.2.1, i _ q.2.2⟩ | exact q.elim
  · rw [s] at q
    exact i _ q
theorem scl_rep {K : Fg} {H : Hp} {d e : D} {v u : V} (r : Rep K b H d v) (s : Rep K b H e u) (h : sclD d e = true) : scal v u = true ∧ decide (v = u) = eqF d e := by
  cases d <;> first | cases h | skip
  all_goals cases e <;> first | cases h | skip
  all_goals (first | cases r.non | cases r.bl | cases r.int | cases r.str)
  all_goals (first | cases s.non | cases s.bl | cases s.int | cases s.str)
  all_goals refine ⟨rfl, ?_⟩
  all_goals simp only [eqF, decide_eq_true_eq, reduceCtorEq, decide_false, decide_true]
  all_goals rw [Bool.eq_iff_iff]; simp
theorem op2_eqA : Op2 X.K b (fun x y H Q => rEq x y H Q ∨ rEqD X.K x y H Q) (dEqA false) := by
  refine ⟨dEqA_mn false, fun O H dx dy x y Q F r1 r2 q => ?_⟩
  unfold dEqA at q
  cases s : sclD dx dy <;> rw [s] at q
  · exact .inr (op2_eq.ok O H dx dy x y Q F r1 r2 q)
  · obtain ⟨h1, h2⟩ := scl_rep r1 r2 s
    exact .inl ⟨h1, by rw [h2]; exact q _ H (.refl H) rfl⟩
theorem op2_neA : Op2 X.K b (fun x y H Q => rNe x y H Q ∨ rNeD X.K x y H Q) (dEqA true) := by
  refine ⟨dEqA_mn true, fun O H dx dy x y Q F r1 r2 q => ?_⟩
  unfold dEqA at q
  cases s : sclD dx dy <;> rw [s] at q
  · exact .inr (op2_ne.ok O H dx dy x y Q F r1 r2 q)
  · obtain ⟨h1, h2⟩ := scl_rep r1 r2 s
    exact .inl ⟨h1, by rw [h2]; exact q _ H (.refl H) rfl⟩
theorem op_eqG {k : Nat} (hr : Room k X.A) : OpR X (compareOp .Eq) (fun x y H Q => rEq x y H Q ∨ rEqD X.K x y H Q) := op_eq.or (op_eqD hr.units)
theorem op_neG {k : Nat} (hr : Room k X.A) : OpR X (compareOp .NotEq) (fun x y H Q => rNe x y H Q ∨ rNeD X.K x y H Q) := op_ne.or (op_neD hr.units)
theorem de_eqA {k : Nat} (hr : Room k X.A) (A : DT b H0 X a ga) (B : DT b H0 X c gb) : DE b H0 X (.Compare a [.Eq] [c] pos) (g2 (dEqA false) ga gb) := de_cmp (op_eqG hr) op2_eqA A B
theorem db_eqA {k : Nat} (hr : Room k X.A) (A : DT b H0 X a ga) (B : DT b H0 X c gb) : DB b H0 X (.Compare a [.Eq] [c] pos) (gB (g2 (dEqA false) ga gb)) := db_cmp (op_eqG hr) op2_eqA A B
theorem db_neA {k : Nat} (hr : Room k X.A) (A : DT b H0 X a ga) (B : DT b H0 X c gb) : DB b H0 X (.Compare a [.NotEq] [c] pos) (gB (g2 (dEqA true) ga gb)) := db_cmp (op_neG hr) op2_neA A B
/-! ### in -/
/-- x in a list or tuple of flat values -/
def dIn (neg : Bool) : D → D → (D → Prop) → Prop := fun x y k => match y with
  | .lst ds => flatD x = true ∧ ds.all flatD = true ∧ k (.bl (if neg then !(ds.any fun z => eqF z x) else ds.any fun z => eqF z x))
  | .tup ds => flatD x = true ∧ ds.all flatD = true ∧ k (.bl (if neg then !(ds.any fun z => eqF z x) else ds.any fun z => eqF z x))
  | _ => False
theorem flat_rep {K : Fg} {H : Hp} {d : D} {v : V} (r : Rep K b H d v) (f : flatD d = true) : flatV v = true := by
  cases d <;> first | (cases r.non; rfl) | (cases r.bl; rfl) | (cases r.int; rfl) | (cases r.str; rfl) | cases f
theorem eqF_rep {K : Fg} {H : Hp} {d e : D} {v u : V} (r : Rep K b H d v) (s : Rep K b H e u) (f : flatD d = true) (g : flatD e = true) : eqV v u = eqF d e := by
  cases d <;> first | cases f | skip
  all_goals cases e <;> first | cases g | skip
  all_goals (first | cases r.non | cases r.bl | cases r.int | cases r.str)
  all_goals (first | cases s.non | cases s.bl | cases s.int | cases s.str)
  all_goals rfl
theorem flats_rep {K : Fg} {H : Hp} {e : D} {u : V} (s : Rep K b H e u) (g : flatD e = true) : ∀ {ds : List D} {vs : List V}, Reps K b H ds vs → ds.all flatD = true → vs.all flatV = true ∧ inV u vs = ds.any fun z => eqF z e
  | [], _, r, _ => by rw [r.of_nil]; exact ⟨rfl, rfl⟩
  | d :: ds, vs, r, f => by
    obtain ⟨v, q, rfl, h1, h2⟩ := r.of_cons
    rw [List.all_cons, Bool.and_eq_true] at f
    obtain ⟨i1, i2⟩ := flats_rep s g h2 f.2
    refine ⟨by rw [List.all_cons, flat_rep h1 f.1, i1]; rfl, ?_⟩
    have i2' : q.any (fun y => eqV y u) = ds.any fun z => eqF z e := i2
    show (v :: q).any (fun y => eqV y u) = _
    rw [List.any_cons, List.any_cons, i2', eqF_rep h1 s f.1 g]
theorem dIn_mn (neg : Bool) : ∀ x y (k k' : D → Prop), (∀ d, k d → k' d) → dIn neg x y k → dIn neg x y k' := by
  intro x y k k' i q
  cases y <;> first | exact ⟨q.1, q.2.1, i _ q.2.2⟩ | exact q.elim
theorem op2_in (neg : Bool) : Op2 X.K b (rIn X.K neg) (dIn neg) := by
  refine ⟨dIn_mn neg, fun O H dx dy x y Q F r1 r2 q => ?_⟩
  cases dy with
  | lst ds =>
    obtain ⟨p, vs, rfl, n, h, s⟩ := r2.lst
    obtain ⟨h1, h2⟩ := flats_rep r1 q.1 s q.2.1
    exact ⟨p, vs, rfl, .inl h, flat_rep r1 q.1, h1, by rw [h2]; exact q.2.2 _ H (.refl H) rfl⟩
  | tup ds =>
    obtain ⟨p, vs, rfl, n, h, s⟩ := r2.tup
    obtain ⟨h1, h2⟩ := flats_rep r1 q.1 s q.2.1
    exact ⟨p, vs, rfl, .inr h, flat_rep r1 q.1, h1, by rw [h2]; exact q.2.2 _ H (.refl H) rfl⟩
  | _ => exact q.elim
/-- x in a list of any data -/
def dInD (neg : Bool) : D → D → (D → Prop) → Prop := fun x y k => match toPy x, y with
  | some d, .lst es => (match toPys es with
    | some ds => SeqAt.shaped d = true ∧ SeqAt.shaped (.list ds) = true ∧ k (.bl (if neg then !(ds.any fun z => PyData.eqv z d) else ds.any fun z => PyData.eqv z d))
    | none => False)
  | _, _ => False
theorem dInD_mn (neg : Bool) : ∀ x y (k k' : D → Prop), (∀ d, k d → k' d) → dInD neg x y k → dInD neg x y k' := by
  intro x y k k' i q
  unfold dInD at q ⊢
  cases e : toPy x with
  | none => rw [e] at q; exact q.elim
  | some d =>
    rw [e] at q
    cases y with
    | lst es =>
      simp only at q ⊢
      cases e2 : toPys es <;> rw [e2] at q <;> first | exact ⟨q.1, q.2.1, i _ q.2.2⟩ | exact q.elim
    | _ => exact q.elim
theorem inD_ok {K : Fg} {neg : Bool} {O : List Addr} {H : Hp} {dx dy : D} {x y : V} {Q : VK} (r1 : Rep K b H dx x) (r2 : Rep K b H dy y) (q : dInD neg dx dy (fun d => ∀ v H', Ext b H H' → Rep K b (hide O H') d v → Q v H')) :
    ∃ d ds, Dp K H x d ∧ Dp K H y (.list ds) ∧ SeqAt.shaped d = true ∧ SeqAt.shaped (.list ds) = true ∧ Q (.bl (if neg then !(ds.any fun z => PyData.eqv z d) else ds.any fun z => PyData.eqv z d)) H := by
  unfold dInD at q
  cases e : toPy dx with
  | none => rw [e] at q; exact q.elim
  | some d =>
    rw [e] at q
    cases dy with
    | lst es =>
      simp only at q
      cases e2 : toPys es with
      | none => rw [e2] at q; exact q.elim
      | some ds =>
        rw [e2] at q
        exact ⟨d, ds, r1.dp e, r2.dp (by simp only [toPy, e2]; rfl), q.1, q.2.1, q.2.2 _ H (.refl H) rfl⟩
    | _ => exact q.elim
theorem un65 {k : Nat} (hr : Room (k + 1) X.A) : X.A.units + 65 < cLine := by have := hr.un; omega
/-! ### chains -/
def gChain (rd rd' : D → D → (D → Prop) → Prop) (ga gb gc : GE) : GE := fun σ k => ga σ fun x => gb σ fun y => rd x y fun z => match z with
  | .bl true => gc σ fun w => rd' y w k
  | .bl false => k (.bl false)
  | _ => False
end
end DL
/-! DE8 -/
set_option Elab.async false
set_option linter.all false
set_option maxRecDepth 100000
set_option maxHeartbeats 4000000
/-! isinstance, slices, texts, walks over texts and pairs, two names at once. -/
namespace DL
open PySem PySem.Spec PyProof.Rows L2
variable [TabC]
/-! ### isinstance -/
inductive Tg | non | bl | int | str | tup | lst | dic
deriving DecidableEq
def Tg.nm : Tg → String
  | .non => "NoneType" | .bl => "bool" | .int => "int" | .str => "str" | .tup => "tuple" | .lst => "list" | .dic => "dict"
def subT (t T : Tg) : Bool := match t, T with
  | .non, .non => true | .bl, .bl => true | .bl, .int => true | .int, .int => true | .str, .str => true | .tup, .tup => true | .lst, .lst => true | .dic, .dic => true | _, _ => false
theorem kit_tag (K : Fg) (t T : Tg) : PySem.W.kitOne K (.type t.nm) (.type T.nm) = some (subT t T) := by
  cases t <;> cases T <;> exact kit_ty (by decide +kernel)
inductive KC | ty (T : Tg) | own (c : Str)
structure OwnOk (K : Fg) (c : Str) : Prop where
  cl : Cls K (He.ga K c)
  ha : PySem.W.findIn K (.ref (He.ga K c)) "__class__" = some (some (.builtin "object.__class__"))
  hn : PySem.W.specialIn K (.builtin "object.__class__") "__get__" = some (some (.builtin "getset_descriptor.__get__"))
  htk : PySem.W.takesIn K (.builtin "object.__class__") = some true
  hm : PySem.W.mroIn K (He.ga K c) (.type "object") = some true
structure ClsOk (K : Fg) (cls : List Str) (sub : Str → Str → Bool) : Prop where
  own : ∀ c ∈ cls, OwnOk K c
  oo : ∀ c ∈ cls, ∀ C ∈ cls, PySem.W.kitOne K (.ref (He.ga K c)) (.ref (He.ga K C)) = some (sub c C)
  ob : ∀ c ∈ cls, ∀ T : Tg, PySem.W.kitOne K (.ref (He.ga K c)) (.type T.nm) = some false
  bo : ∀ T : Tg, ∀ C ∈ cls, PySem.W.kitOne K (.type T.nm) (.ref (He.ga K C)) = some false
def KC.v (K : Fg) : KC → V
  | .ty T => .ty T.nm | .own c => .ref (He.ga K c)
def KC.u (K : Fg) : KC → Value
  | .ty T => .type T.nm | .own c => .ref (He.ga K c)
theorem KC.cv (K : Fg) (k : KC) : ClsV (k.v K) (k.u K) := by
  cases k
  · exact .ty _
  · exact .own _
def KC.ok (cls : List Str) : KC → Prop
  | .ty _ => True | .own c => c ∈ cls
def tagOf : D → Option Tg
  | .non => some .non | .bl _ => some .bl | .int _ => some .int | .str _ => some .str | .tup _ => some .tup | .lst _ => some .lst | .dic _ _ => some .dic | .frl _ _ => some .lst | .frd _ _ => some .dic | _ => none
def isA (sub : Str → Str → Bool) (k : KC) (d : D) : Bool := match k with
  | .ty T => (match tagOf d with | some t => subT t T | none => false)
  | .own C => (match d with | .ins c _ _ => sub c C | _ => false)
def askD (cls : List Str) : D → Bool
  | .ins c _ _ => cls.contains c
  | .bag => false | .clo _ => false | .exc _ _ _ => false | .cel _ => false | _ => true
def isAny (sub : Str → Str → Bool) (ks : List KC) (d : D) : Bool := ks.any fun k => isA sub k d
theorem askTag {K : Fg} {b : Option Addr} {H : Hp} {cls : List Str} {sub : Str → Str → Bool} (W : ClsOk K cls sub) {d : D} {v : V} (r : Rep K b H d v) (h : askD cls d = true) : ∃ t, TyX K H v t ∧ ∀ k : KC, k.ok cls → PySem.W.kitOne K t (k.u K) = some (isA sub k d) := by
  have key : ∀ T : Tg, tagOf d = some T → (∀ c ns xs, d ≠ .ins c ns xs) → ∀ k : KC, k.ok cls → PySem.W.kitOne K (.type T.nm) (k.u K) = some (isA sub k d) := fun T e ni k ok => by
    cases k with
    | ty S =>
      show _ = some (match tagOf d with | some t => subT t S | none => false)
      rw [e]
      exact kit_tag K T S
    | own C =>
      have e2 : isA sub (.own C) d = false := by
        cases d <;> first | rfl | exact absurd rfl (ni _ _ _)
      rw [e2]
      exact W.bo T C ok
  cases d with
  | non => rw [r.non]; exact ⟨_, .base .non, key .non rfl (by simp)⟩
  | bl x => rw [r.bl]; exact ⟨_, .base (.bl _), key .bl rfl (by simp)⟩
  | int x => rw [r.int]; exact ⟨_, .base (.int _), key .int rfl (by simp)⟩
  | str x => rw [r.str]; exact ⟨_, .base (.str _), key .str rfl (by simp)⟩
  | tup ds =>
    obtain ⟨a, vs, rfl, n, hs, s⟩ := r.tup
    refine ⟨_, ?_, key .tup rfl (by simp)⟩
    rcases hs with (h | ⟨o, h⟩) | ⟨o, its, n, h, c, _⟩
    · exact .base (.tup h)
    · exact .fTuple h
    · exact .kTuple h c
  | lst ds =>
    obtain ⟨a, vs, rfl, n, hs, s⟩ := r.lst
    refine ⟨_, ?_, key .lst rfl (by simp)⟩
    rcases hs with (h | ⟨o, h⟩) | ⟨o, its, n, h, c, _⟩
    · exact .base (.lst h)
    · exact .base (.frz h)
    · exact .kList h c
  | dic ks ds =>
    simp only [Rep] at r
    obtain ⟨a, o, vs, rfl, n, h, l, s⟩ := r
    exact ⟨_, .fDict h, key .dic rfl (by simp)⟩
  | ins c ns ds =>
    obtain ⟨a, dx, vs, rfl, n, h1, l, s⟩ := r.ins
    have hc : c ∈ cls := by simpa [askD] using h
    have o := W.own c hc
    refine ⟨_, .base (.ins h1 o.cl o.ha o.hn o.htk o.hm), fun k ok => ?_⟩
    cases k with
    | ty S => exact W.ob c hc S
    | own C => exact W.oo c hc C ok
  | bag => cases h
  | clo j => cases h
  | frl a ds =>
    obtain ⟨o, vs, rfl, n, h, s⟩ := r.frl
    exact ⟨_, .base (.frz h), key .lst rfl (by simp)⟩
  | frd ks ds =>
    obtain ⟨a, vs, rfl, n, h, l, s⟩ := r.frd
    exact ⟨_, .base (.dK h), key .dic rfl (by simp)⟩
  | exc c ns ds => cases h
  | cel _ => cases h
theorem askAny {K : Fg} {sub : Str → Str → Bool} {cls : List Str} {d : D} {t : Value} (h : ∀ k : KC, k.ok cls → PySem.W.kitOne K t (k.u K) = some (isA sub k d)) : ∀ ks : List KC, (∀ k ∈ ks, k.ok cls) → PySem.W.kitAny K t (ks.map (KC.u K)) = some (isAny sub ks d)
  | [], _ => kitAny_nil
  | k :: ks, ok => by
    refine kitAny_cons (h k (ok k List.mem_cons_self)) (fun e => ?_) (fun e => ?_)
    · rw [askAny h ks (fun k' m => ok k' (List.mem_cons_of_mem _ m))]
      show some (isAny sub ks d) = some ((k :: ks).any _)
      rw [List.any_cons, e]; rfl
    · show (k :: ks).any _ = true
      rw [List.any_cons, e]; rfl
theorem kcs_paired (K : Fg) : ∀ ks : List KC, Paired ClsV (ks.map (KC.v K)) (ks.map (KC.u K))
  | [] => .nil
  | k :: ks => .cons (k.cv K) (kcs_paired K ks)
def gIsi (cls : List Str) (sub : Str → Str → Bool) (ks : List KC) (ge : GE) : GE := fun σ k => ge σ fun d => askD cls d = true ∧ k (.bl (isAny sub ks d))
theorem gIsi_mn {cls : List Str} {sub : Str → Str → Bool} {ks : List KC} {ge : GE} (A : Mn ge) : Mn (gIsi cls sub ks ge) := fun σ k k' i q => A _ _ _ (fun d z => ⟨z.1, i _ z.2⟩) q
section
variable {X : Cx} {b : Option Addr} {H0 : Hp} {a c e : Expr} {cs : List Expr} {ga gb gc ge : GE} {pos p p2 : Pos} {cls : List Str} {sub : Str → Str → Bool}
theorem pe_kty {x : Str} {T : Tg} (hg : Gl X x) (hm : X.mg x = none) (hv : bootBuiltins x = some (.type T.nm)) (hn : x ≠ "__name__" := by decide) (hd : (x == ("__debug__" : Str)) = false := by decide) : PE X (.Name x p) (tC ((KC.ty T).v X.K)) := pe_bltn hg hm hv rfl hn hd
def PKs (X : Cx) (cs : List Expr) (ks : List KC) : Prop := PA X cs fun _ H Q => Q (ks.map (KC.v X.K)) H
theorem pks_nil : PKs X [] [] := pa_nil
theorem pks_cons {k : KC} {ks : List KC} (h : PE X c (tC (k.v X.K))) (r : PKs X cs ks) (hs : starEach (c :: cs) X.env = (false, eval c X.env) :: starEach cs X.env := by rfl) : PKs X (c :: cs) (k :: ks) := pa_cons h r hs
theorem de_isi {k : KC} (W : ClsOk X.K cls sub) (ok : k.ok cls) (A : DT b H0 X a ga) (hc : PE X c (tC (k.v X.K))) (hg : Gl X "isinstance") (hm : X.mg "isinstance" = none)
    (he : starEach [a, c] X.env = (false, eval a X.env) :: starEach [c] X.env := by rfl) (he2 : starEach [c] X.env = (false, eval c X.env) :: starEach [] X.env := by rfl)
    (hpl : (backTo pos (starEach [c] X.env)).any (·.1) = false := by rfl) : DE b H0 X (.Call (.Name "isinstance" p) [a, c] [] pos) (gIsi cls sub [k] ga) := by
  refine ⟨pe_imp (pe_callB call_isi hg hm rfl (pa_cons A.pe (pa_cons hc pa_nil he2) he) (by decide) (by decide) he hpl) fun σ H Q ⟨σd, O, R, q⟩ => ?_, gIsi_mn A.mn⟩
  refine ⟨σd, O, R, A.mn _ _ _ (fun d z v H' x r => ?_) q⟩
  obtain ⟨t, ty, h⟩ := askTag W r z.1
  refine ⟨v, k.v X.K, t, k.u X.K, isA sub k d, rfl, k.cv X.K, ty, h k ok, ?_⟩
  have w := z.2 (.bl (isAny sub [k] d)) H' x rfl
  have e : isAny sub [k] d = isA sub k d := by unfold isAny; simp
  rw [e] at w; exact w
theorem de_isiT {ks : List KC} {n1 : Nat} (W : ClsOk X.K cls sub) (ok : ∀ k ∈ ks, k.ok cls) (A : DT b H0 X a ga) (hc : PKs X cs ks) (hl : ks.length ≤ 1000) (hg : Gl X "isinstance") (hm : X.mg "isinstance" = none)
    (he : starEach [a, .Tuple cs n1 p2] X.env = (false, eval a X.env) :: starEach [.Tuple cs n1 p2] X.env := by rfl) (he2 : starEach [.Tuple cs n1 p2] X.env = (false, eval (.Tuple cs n1 p2) X.env) :: starEach [] X.env := by rfl)
    (hpl : (backTo pos (starEach [.Tuple cs n1 p2] X.env)).any (·.1) = false := by rfl) : DE b H0 X (.Call (.Name "isinstance" p) [a, .Tuple cs n1 p2] [] pos) (gIsi cls sub ks ga) := by
  refine ⟨pe_imp (pe_callB call_isiT hg hm rfl (pa_cons A.pe (pa_cons (pe_tup hc) pa_nil he2) he) (by decide) (by decide) he hpl) fun σ H Q ⟨σd, O, R, q⟩ => ?_, gIsi_mn A.mn⟩
  refine ⟨σd, O, R, A.mn _ _ _ (fun d z v H' x r => ?_) q⟩
  refine ⟨by rw [List.length_map]; exact le_line hl, fun tp htp => ?_⟩
  obtain ⟨t, ty, h⟩ := askTag (H := upd H' tp (.tup (ks.map (KC.v X.K)))) W (r.mono (Le.new htp)) z.1
  refine ⟨v, tp, ks.map (KC.v X.K), t, ks.map (KC.u X.K), isAny sub ks d, rfl, upd_same, kcs_paired X.K ks, ty, askAny h ks ok, z.2 (.bl (isAny sub ks d)) _ (x.trans (.new htp)) rfl⟩
/-! ### slices -/
def gNoP : StD → (Option Int → Prop) → Prop := fun _ k => k none
def gPart (ge : GE) : StD → (Option Int → Prop) → Prop := fun σ k => ge σ fun d => match d with | .int i => k (some i) | _ => False
/-- of a text or a list -/
def gSl2 (ge : GE) (gl gh : StD → (Option Int → Prop) → Prop) : GE := fun σ k => ge σ fun d => gl σ fun lo => gh σ fun hi => match d with
  | .str z => z.length ≤ 1000000 ∧ k (.str (cutS z lo hi))
  | .lst ds => k (.lst ((ds.drop (HT.sIx ds.length 0 lo)).take (HT.sIx ds.length ds.length hi - HT.sIx ds.length 0 lo)))
  | .tup ds => ¬ (HT.sIx ds.length 0 lo = 0 ∧ HT.sIx ds.length ds.length hi = ds.length) ∧ k (.tup ((ds.drop (HT.sIx ds.length 0 lo)).take (HT.sIx ds.length ds.length hi - HT.sIx ds.length 0 lo)))
  | _ => False
/-! ### walks over texts and pairs -/
def signs (x : Str) : List D := x.cps.toList.map fun c => .str ⟨#[c]⟩
def gItS (ge : GE) : GI := fun σ k => ge σ fun d => match d with | .str x => k (signs x) | _ => False
def pairsD : List D → List D → List D
  | x :: xs, y :: ys => .tup [x, y] :: pairsD xs ys
  | _, _ => []
theorem pairsD_get : ∀ {xs ys : List D} {i : Nat}, (pairsD xs ys)[i]? = match xs[i]?, ys[i]? with | some x, some y => some (.tup [x, y]) | _, _ => none
  | [], ys, i => by simp [pairsD]
  | x :: xs, [], i => by simp [pairsD]
  | x :: xs, y :: ys, 0 => rfl
  | x :: xs, y :: ys, i + 1 => by
    simp only [pairsD, List.getElem?_cons_succ]
    exact pairsD_get
def gZip (ga gb : GE) : GI := fun σ k => ga σ fun x => gb σ fun y => match x, y with
  | .lst xs, .lst ys => k (pairsD xs ys)
  | .tup xs, .tup ys => k (pairsD xs ys)
  | _, _ => False
theorem zip_item {K : Fg} {O2 : List Addr} {H2 : Hp} {ds es : List D} {vs us : List V} {i : Nat} {d : D} {T : Addr} {x y : V} (F : Fresh b O2 H2) (hT : H2 T = none) (r1 : Reps K b (hide O2 H2) ds vs) (r2 : Reps K b (hide O2 H2) es us) (e : (pairsD ds es)[i]? = some d) (ex : vs[i]? = some x) (ey : us[i]? = some y) : Ext b H2 (upd H2 T (.tup [x, y])) ∧ Rep K b (hide O2 (upd H2 T (.tup [x, y]))) d (.ref T) := by
  rw [pairsD_get] at e
  cases e1 : ds[i]? with
  | none => rw [e1] at e; cases e
  | some d1 =>
    cases e2 : es[i]? with
    | none => rw [e1, e2] at e; cases e
    | some d2 =>
      rw [e1, e2] at e; cases e
      obtain ⟨v1, q1, w1⟩ := r1.get e1
      obtain ⟨v2, q2, w2⟩ := r2.get e2
      rw [ex] at q1; cases q1
      rw [ey] at q2; cases q2
      exact ⟨.new hT, rep_newT F hT (Reps.cons w1 (Reps.cons w2 Reps.nil))⟩
theorem pairs_at {ds es : List D} {i : Nat} {d : D} {K : Fg} {H : Hp} {vs us : List V} (r1 : Reps K b H ds vs) (r2 : Reps K b H es us) (e : (pairsD ds es)[i]? = some d) : ∃ x y, vs[i]? = some x ∧ us[i]? = some y := by
  rw [pairsD_get] at e
  cases e1 : ds[i]? with
  | none => rw [e1] at e; cases e
  | some d1 =>
    cases e2 : es[i]? with
    | none => rw [e1, e2] at e; cases e
    | some d2 =>
      obtain ⟨v1, q1, w1⟩ := r1.get e1
      obtain ⟨v2, q2, w2⟩ := r2.get e2
      exact ⟨v1, v2, q1, q2⟩
/-! ### two names at once -/
def gPar (i j : Nat) (ga gb : GE) : GSt := fun D σ => ga σ fun x => gb σ fun y => D.nx (put (put σ i (.sh x)) j (.sh y))
/-- targets = value -/
def gTgt (t : Tgt) (ge : GE) : GSt := fun D σ => ge σ fun d => asg t d σ D.nx
/-! ### texts -/
def strsOf : List D → Option (List Str)
  | [] => some []
  | .str s :: r => (match strsOf r with | some q => some (s :: q) | none => none)
  | _ :: _ => none
/-- t.join(xs) -/
def gJoin (ga gb : GE) : GE := fun σ k => ga σ fun x => match x with
  | .str s => gb σ fun y => (match y with
    | .lst ds => (match strsOf ds with | some ys => (ys.map (·.length)).sum + ys.length * s.length ≤ 1000000 ∧ k (.str (Txt.join s ys)) | none => False)
    | _ => False)
  | _ => False
end
end DL
/-! DF1 -/
set_option Elab.async false
set_option linter.all false
set_option maxRecDepth 100000
set_option maxHeartbeats 4000000
/-! The bag that a law draws from: its making, a draw. -/
namespace DL
open PySem PySem.Spec PyProof.Rows L2
variable [TabC]
/-! ### the making -/
abbrev rMulK : R2 := rI MulOk fun i j => .int (i * j)
abbrev rAddK : R2 := rI0 fun i j => .int (i + j)
abbrev rModK : R2 := rI (fun _ j => j ≠ 0) fun i j => .int (i.fmod j)
abbrev rInt1 : List V → Hp → VK → Prop := fun xs H Q => (∃ i, xs = [.int i] ∧ Q (.int i) H) ∨ ∃ k, xs = [.bl k] ∧ Q (.int (if k then 1 else 0)) H
def tBag (K : Fg) : TS :=
  tSeq (tAsg (tLc (iList K (tSl (rSlL K) (tVar 0) tNoPart (tPart (tC (.int 63))))) (gName 3) tYes (tCB rInt1 (tCons (tVar 3) tNil)) [3]) (gName 1))
  (tSeq (tAsg (tOp rAddK (tC (.int 12003)) (tOp rMulK (tC (.int 211)) (tCB (rLen3 K) (tCons (tVar 1) tNil)))) (gName 2))
  (tSeq (tFor (iList K (tVar 1)) (gName 3) (tAsg (tOp rModK (tCB rInt1 (tCons (tOp rAddK (tOp rMulK (tVar 2) (tC (.int 8191))) (tVar 3)) tNil)) (tC (.int 2147483549))) (gName 2)))
  (tRet (tLst (tCons (tVar 1) (tCons (tC (.int 0)) (tCons (tC (.int 0)) (tCons (tVar 2) tNil))))))))
def spBag (K : Fg) : Sp := fun vs H Q _ => ∃ (a : Addr) (ns : List Int), vs = [.ref a] ∧ SqL K H a (ns.map V.int) ∧ ns.length ≤ 1000000 ∧
  ∀ (c p : Addr) (H' : Hp) (ms : List Int) (m : Int), (∀ a o, H a = some o → H' a = some o) → H c = none → H p = none → c ≠ p → H' c = some (.lst (ms.map V.int)) → H' p = some (.lst [.ref c, .int 0, .int 0, .int m]) → Q (.ref p) H'
theorem sqL_up {K : Fg} {H : Hp} {a D : Addr} {o : HO} {xs : List V} (h : SqL K H a xs) (n : H D = none) : SqL K (upd H D o) a xs := by
  have e : ∀ u, H a = some u → upd H D o a = some u := fun u e => by rw [upd_ne (ne_of_none e n)]; exact e
  rcases h with (h | ⟨ob, h⟩) | h
  · exact .inl (.inl (e _ h))
  · exact .inl (.inr ⟨ob, e _ h⟩)
  · exact .inr h
theorem iteQ {c : Bool} {A B : Prop} (h1 : c = true → A) (h2 : c = false → B) : (if c = true then A else B) := by
  cases c
  · exact h2 rfl
  · exact h1 rfl
theorem mul_k {i j : Int} (h : -(2 ^ 64) < i ∧ i < 2 ^ 64 ∨ -(2 ^ 64) < j ∧ j < 2 ^ 64) : MulOk i j := CMul.ok h
theorem bag_read {K : Fg} {vs : List V} {H : Hp} {Q : VK} {E : XK} (h : spBag K vs H Q E) {N : List Str} (hN : N.length = 4) : tBag K { nx := fun _ H' => Q .non H', rt := Q } (L2.start N vs) H := by
  obtain ⟨a, ns, rfl, hs, hl, q⟩ := h
  have es : L2.start N [V.ref a] = [some (.ref a), none, none, none] := by
    unfold L2.start
    have : N.length - [V.ref a].length = 3 := by simp [hN]
    rw [this]; rfl
  rw [es]
  refine ⟨.ref a, rfl, 63, rfl, a, ns.map V.int, rfl, hs, fun p0 hp0 => ⟨p0, rfl, ⟨_, .inl (.inl upd_same)⟩, fun D hD => ?_⟩⟩
  have hDp : D ≠ p0 := fun e => by rw [e, upd_same] at hD; cases hD
  have hD0 : H D = none := by rw [upd_ne hDp] at hD; exact hD
  generalize hms : (ns.drop (HT.sIx (ns.map V.int).length 0 none)).take (HT.sIx (ns.map V.int).length (ns.map V.int).length (some 63) - HT.sIx (ns.map V.int).length 0 none) = ms
  have ecut : cutV (ns.map V.int) none (some 63) = ms.map V.int := by
    unfold cutV
    rw [← hms, List.map_take, List.map_drop]
  have hml : ms.length ≤ 1000000 := by
    have := cutV_length (ns.map V.int) none (some 63)
    rw [ecut] at this
    simp at this
    omega
  rw [ecut]
  refine lc_list (xs := ms.map V.int) (fun i H2 => ∃ H3 : Hp, H2 = upd H3 D (.lst ((ms.take i).map V.int)) ∧ (∀ x o, upd H p0 (.lst (ms.map V.int)) x = some o → H3 x = some o) ∧ H3 D = none)
    ⟨upd H p0 (.lst (ms.map V.int)), rfl, fun _ _ e => e, by rw [ecut] at hD; exact hD⟩ (fun i H2 hi ⟨H3, e, k, n⟩ => by rw [e]; exact sqL_up (.inl (.inl (k p0 _ upd_same))) n) (fun i x H2 hx ⟨H3, e, k, n⟩ => ?_) (fun H2 ⟨H3, e, k, n⟩ => ?_)
  · obtain ⟨z, hz, rfl⟩ : ∃ z, ms[i]? = some z ∧ x = .int z := by
      rw [List.getElem?_map] at hx
      cases e2 : ms[i]? with
      | none => rw [e2] at hx; cases hx
      | some z => rw [e2] at hx; cases hx; exact ⟨z, rfl, rfl⟩
    refine ⟨rfl, ?_⟩
    simp only [tYes, if_true]
    refine ⟨.int z, rfl, .inl ⟨z, rfl, (ms.take i).map V.int, by rw [e]; exact upd_same, ?_, H3, ?_, k, n⟩⟩
    · rw [List.length_map, List.length_take]
      exact Nat.lt_of_le_of_lt (Nat.min_le_right _ _) (Nat.lt_of_le_of_lt hml (by decide))
    · rw [e, upd_upd, List.take_add_one, hz]
      simp
  · have e2 : (ms.take (ms.map V.int).length).map V.int = ms.map V.int := by simp
    rw [e2] at e
    have hDD : H2 D = some (.lst (ms.map V.int)) := by rw [e]; exact upd_same
    have kH : ∀ x o, H x = some o → H2 x = some o := fun x o hx => by
      rw [e, upd_ne (fun z => by rw [z, hD0] at hx; cases hx)]
      exact k x o (by rw [upd_ne (fun z => by rw [z, hp0] at hx; cases hx)]; exact hx)
    refine ⟨.ref D, rfl, .inl ⟨D, ms.map V.int, rfl, .inl (.inl (.inl hDD)), 211, _, rfl, rfl, mul_k (.inl ⟨by decide, by decide⟩), 12003, _, rfl, rfl, ?_⟩⟩
    refine ⟨.ref D, rfl, D, rfl, ⟨_, .inl (.inl hDD)⟩, ?_⟩
    refine for_list (xs := ms.map V.int) (fun i σ H3 => H3 = H2 ∧ ∃ (m : Int) (o : Option V), σ = [some (.ref a), some (.ref D), some (.int m), o]) ⟨rfl, _, _, rfl⟩ (fun i σ H3 hi ⟨e3, _⟩ => by rw [e3]; exact .inl (.inl hDD)) (fun i x σ H3 hx ⟨e3, m, o, es⟩ => ?_) (fun σ H3 ⟨e3, m, o, es⟩ => ?_)
    · obtain ⟨z, hz, rfl⟩ : ∃ z, ms[i]? = some z ∧ x = .int z := by
        rw [List.getElem?_map] at hx
        cases e2 : ms[i]? with
        | none => rw [e2] at hx; cases hx
        | some z => rw [e2] at hx; cases hx; exact ⟨z, rfl, rfl⟩
      subst e3 es
      exact ⟨.int m, rfl, m, _, rfl, rfl, mul_k (.inr ⟨by decide, by decide⟩), .int z, rfl, _, _, rfl, rfl, .inl ⟨_, rfl, _, _, rfl, rfl, (show (2147483549 : Int) ≠ 0 by decide), rfl, _, _, rfl⟩⟩
    · subst e3 es
      refine ⟨.ref D, rfl, .int m, rfl, by show 4 ≤ sizeLine; decide, fun p hp => ?_⟩
      have hDp2 : D ≠ p := fun z => by rw [← z, hDD] at hp; cases hp
      refine q D p _ ms m (fun x o hx => ?_) hD0 ?_ hDp2 ?_ upd_same
      · rw [upd_ne (fun z => by rw [z] at hx; have := kH _ _ hx; rw [hp] at this; cases this)]
        exact kH _ _ hx
      · cases e4 : H p with
        | none => rfl
        | some o => rw [kH _ _ e4] at hp; cases hp
      · rw [upd_ne hDp2]; exact hDD
/-! ### a draw -/
abbrev rDivK : R2 := rI (fun _ j => DivOk j) fun i j => .int (i.fdiv j)
abbrev tBx (K : Fg) (i : Int) : TE := tOp (rIx K) (tVar 0) (tC (.int i))
def tHot (K : Fg) : TS :=
  tSeq (tAsg (tOp rModK (tCB rInt1 (tCons (tOp rAddK (tOp rAddK (tOp rMulK (tVar 2) (tC (.int 48619))) (tOp rMulK (tBx K 1) (tC (.int 37501)))) (tBx K 3)) tNil)) (tC (.int 2147483647))) (gName 3))
  (tSeq (tAsg (tOp rModK (tCB rInt1 (tCons (tOp rAddK (tOp rMulK (tVar 3) (tVar 3)) (tOp rMulK (tBx K 1) (tC (.int 52009)))) tNil)) (tC (.int 1000000009))) (gName 4))
  (tRet (tOp rModK (tOp rDivK (tOp rModK (tCB rInt1 (tCons (tOp rAddK (tOp rMulK (tVar 4) (tC (.int 29009))) (tVar 3)) tNil)) (tC (.int 2147483587))) (tC (.int 19))) (tVar 1))))
def tRest (K : Fg) : TS :=
  tSeq (tIfS (tOr (tB (tGt (tBx K 1) (tCB (rLen3 K) (tCons (tBx K 0) tNil)))) (tB (tLt (tVar 2) (tOp (rI CPow fun i j => .int (i ^ j.toNat)) (tC (.int 10)) (tC (.int 18)))))) (tHot K) tNext)
  (tAsg (tVar 2) (gSub (tVar 0) (tC (.int 2)) rSetL))
def tTail (K : Fg) : TS :=
  tSeq (tAsg (tOp rModK (tCB rInt1 (tCons (tBx K 2) tNil)) (tVar 1)) (gName 5))
  (tSeq (tAsg (tOp rDivK (tCB rInt1 (tCons (tBx K 2) tNil)) (tVar 1)) (gSub (tVar 0) (tC (.int 2)) rSetL))
  (tRet (tVar 5)))
def tDraw (K : Fg) : TS :=
  tSeq (tIfS (tB (tLt (tBx K 2) (tC (.int 2))))
    (tSeq (tAsg (tOp rAddK (tBx K 1) (tC (.int 1))) (gSub (tVar 0) (tC (.int 1)) rSetL))
    (tSeq (tAsg (tOp rAddK (tBx K 3) (tOp rMulK (tBx K 1) (tC (.int 10007)))) (gName 2))
    (tSeq (tIfS (tB (tLe (tBx K 1) (tCB (rLen3 K) (tCons (tBx K 0) tNil)))) (tAsg (tOp (rIx K) (tBx K 0) (tOp (rI0 fun i j => .int (i - j)) (tBx K 1) (tC (.int 1)))) (gName 2)) tNext)
    (tRest K)))) tNext)
  (tTail K)
def spDraw (K : Fg) : Sp := fun vs H Q _ => ∃ (p c : Addr) (m i j x : Int) (ns : List Int), vs = [.ref p, .int m] ∧ H p = some (.lst [.ref c, .int i, .int j, .int x]) ∧ c ≠ p ∧ H c = some (.lst (ns.map V.int)) ∧ 0 ≤ i ∧ 0 < m ∧ DivOk m ∧
  ∀ d i' j' : Int, 0 ≤ i' → 0 ≤ d → d < m → Q (.int d) (upd H p (.lst [.ref c, .int i', .int j', .int x]))
theorem bIx {K : Fg} {σ : L2.St} {H : Hp} {Q : VK} {p : Addr} {xs : List V} {k : Int} {v : V} (h0 : σ[0]? = some (some (.ref p))) (hp : H p = some (.lst xs)) (hv : atI xs k = some v) (q : Q v H) : tBx K k σ H Q :=
  ⟨.ref p, h0, .inl ⟨p, xs, k, v, rfl, rfl, .inl (.inl hp), hv, q⟩⟩
theorem bSet {σ : L2.St} {H : Hp} {Q : L2.St → Hp → Prop} {p : Addr} {xs : List V} {k : Int} {j : Nat} {v : V} (h0 : σ[0]? = some (some (.ref p))) (hp : H p = some (.lst xs)) (hk : ixN xs.length k = some j) (q : Q σ (upd H p (.lst (xs.set j v)))) : gSub (tVar 0) (tC (.int k)) rSetL v σ H Q :=
  ⟨.ref p, h0, p, xs, k, j, rfl, rfl, hp, hk, q⟩
theorem fmod_in {d m : Int} (h : 0 < m) : 0 ≤ d.fmod m ∧ d.fmod m < m := ⟨Int.fmod_nonneg_of_pos d h, Int.fmod_lt_of_pos d h⟩
theorem bLen {K : Fg} {σ : L2.St} {H : Hp} {Q : VK} {p c : Addr} {i j x : Int} {ns : List Int} (h0 : σ[0]? = some (some (.ref p))) (hp : H p = some (.lst [.ref c, .int i, .int j, .int x])) (hc : H c = some (.lst (ns.map V.int))) (q : Q (.int ns.length) H) :
    tCB (rLen3 K) (tCons (tBx K 0) tNil) σ H Q := by
  refine bIx (k := 0) (v := .ref c) h0 hp rfl ?_
  exact .inl ⟨c, ns.map V.int, rfl, .inl (.inl (.inl hc)), by rw [List.length_map]; exact q⟩
section
variable {K : Fg} {H : Hp} {Q : VK} {p c : Addr} {m x : Int} {D : Ends}
theorem tail_read {i' j' : Int} {o2 o3 o4 : Option V} (hm : 0 < m) (hdm : DivOk m) (hi' : 0 ≤ i') (q : ∀ d i' j' : Int, 0 ≤ i' → 0 ≤ d → d < m → D.rt (.int d) (upd H p (.lst [.ref c, .int i', .int j', .int x]))) :
    tTail K D [some (.ref p), some (.int m), o2, o3, o4, none] (upd H p (.lst [.ref c, .int i', .int j', .int x])) := by
  refine bIx (k := 2) (v := .int j') rfl upd_same rfl (.inl ⟨_, rfl, .int m, rfl, _, _, rfl, rfl, (show m ≠ 0 by omega), ?_⟩)
  refine bIx (k := 2) (v := .int j') rfl upd_same rfl (.inl ⟨_, rfl, .int m, rfl, _, _, rfl, rfl, hdm, ?_⟩)
  refine bSet (j := 2) rfl upd_same rfl ?_
  refine ⟨_, rfl, ?_⟩
  rw [upd_upd]
  exact q _ i' _ hi' (fmod_in hm).1 (fmod_in hm).2
theorem hot_read {i j z : Int} (hm : 0 < m) (hi : 0 ≤ i) (q : ∀ d i' j' : Int, 0 ≤ i' → 0 ≤ d → d < m → D.rt (.int d) (upd H p (.lst [.ref c, .int i', .int j', .int x]))) :
    tHot K D [some (.ref p), some (.int m), some (.int z), none, none, none] (upd H p (.lst [.ref c, .int i, .int j, .int x])) := by
  refine ⟨.int z, rfl, _, _, rfl, rfl, mul_k (.inr ⟨by decide, by decide⟩), ?_⟩
  refine bIx (k := 1) (v := .int i) rfl upd_same rfl ⟨_, _, rfl, rfl, mul_k (.inr ⟨by decide, by decide⟩), _, _, rfl, rfl, ?_⟩
  refine bIx (k := 3) (v := .int x) rfl upd_same rfl ⟨_, _, rfl, rfl, .inl ⟨_, rfl, _, _, rfl, rfl, (show (2147483647 : Int) ≠ 0 by decide), ?_⟩⟩
  dsimp only
  generalize he : (z * 48619 + i * 37501 + x).fmod 2147483647 = e
  have hb : 0 ≤ e ∧ e < 2147483647 := he ▸ fmod_in (by decide)
  refine ⟨.int e, rfl, .int e, rfl, _, _, rfl, rfl, mul_k (.inl ⟨by omega, by omega⟩), ?_⟩
  refine bIx (k := 1) (v := .int i) rfl upd_same rfl ⟨_, _, rfl, rfl, mul_k (.inr ⟨by decide, by decide⟩), _, _, rfl, rfl, .inl ⟨_, rfl, _, _, rfl, rfl, (show (1000000009 : Int) ≠ 0 by decide), ?_⟩⟩
  refine ⟨_, rfl, _, _, rfl, rfl, mul_k (.inr ⟨by decide, by decide⟩), .int e, rfl, _, _, rfl, rfl, .inl ⟨_, rfl, _, _, rfl, rfl, (show (2147483587 : Int) ≠ 0 by decide), _, _, rfl, rfl, ⟨by decide, by decide +kernel⟩, .int m, rfl, _, _, rfl, rfl, (show m ≠ 0 by omega), ?_⟩⟩
  exact q _ i j hi (fmod_in hm).1 (fmod_in hm).2
theorem rest_read {i j z : Int} {ns : List Int} (hm : 0 < m) (hi : 0 ≤ i) (hc : upd H p (.lst [.ref c, .int i, .int j, .int x]) c = some (.lst (ns.map V.int))) (q : ∀ d i' j' : Int, 0 ≤ i' → 0 ≤ d → d < m → D.rt (.int d) (upd H p (.lst [.ref c, .int i', .int j', .int x])))
    (t : ∀ i' j' : Int, 0 ≤ i' → D.nx [some (.ref p), some (.int m), some (.int z), none, none, none] (upd H p (.lst [.ref c, .int i', .int j', .int x]))) :
    tRest K D [some (.ref p), some (.int m), some (.int z), none, none, none] (upd H p (.lst [.ref c, .int i, .int j, .int x])) := by
  refine bIx (k := 1) (v := .int i) rfl upd_same rfl ?_
  refine bLen rfl upd_same hc ⟨_, _, rfl, rfl, _, rfl, ?_⟩
  refine iteQ (fun hg => ?_) (fun hg => ?_)
  · exact iteT (hot_read hm hi q)
  · refine ⟨.int z, rfl, _, _, rfl, rfl, ⟨by decide, by decide, by decide⟩, _, _, rfl, rfl, _, rfl, ?_⟩
    refine iteQ (fun hz => hot_read hm hi q) (fun hz => ?_)
    refine ⟨_, rfl, ?_⟩
    refine bSet (j := 2) rfl upd_same rfl ?_
    rw [upd_upd]
    exact t i z hi
end
theorem draw_read {K : Fg} {vs : List V} {H : Hp} {Q : VK} {E : XK} (h : spDraw K vs H Q E) {N : List Str} (hN : N.length = 6) : tDraw K { nx := fun _ H' => Q .non H', rt := Q } (L2.start N vs) H := by
  obtain ⟨p, c, m, i, j, x, ns, rfl, hp, ne, hc, hi, hm, hdm, q⟩ := h
  have es : L2.start N [V.ref p, V.int m] = [some (.ref p), some (.int m), none, none, none, none] := by
    unfold L2.start
    have : N.length - [V.ref p, V.int m].length = 4 := by simp [hN]
    rw [this]; rfl
  rw [es]
  refine bIx (k := 2) (v := .int j) rfl hp rfl ⟨j, 2, rfl, rfl, _, rfl, ?_⟩
  refine iteQ (fun hj => ?_) (fun hj => ?_)
  · refine bIx (k := 1) (v := .int i) rfl hp rfl ⟨_, _, rfl, rfl, ?_⟩
    refine bSet (j := 1) rfl hp rfl ?_
    have hc1 : upd H p (.lst [.ref c, .int (i + 1), .int j, .int x]) c = some (.lst (ns.map V.int)) := by rw [upd_ne ne]; exact hc
    refine bIx (k := 3) (v := .int x) rfl upd_same rfl ?_
    refine bIx (k := 1) (v := .int (i + 1)) rfl upd_same rfl ⟨_, _, rfl, rfl, mul_k (.inr ⟨by decide, by decide⟩), _, _, rfl, rfl, ?_⟩
    refine bIx (k := 1) (v := .int (i + 1)) rfl upd_same rfl ?_
    refine bLen rfl upd_same hc1 ⟨_, _, rfl, rfl, _, rfl, ?_⟩
    refine iteQ (fun hn => ?_) (fun hn => ?_)
    · have hn := of_decide_eq_true hn
      refine bIx (k := 0) (v := .ref c) rfl upd_same rfl ?_
      refine bIx (k := 1) (v := .int (i + 1)) rfl upd_same rfl ⟨_, _, rfl, rfl, ?_⟩
      have hlt : i.toNat < ns.length := by omega
      refine .inl ⟨c, ns.map V.int, _, .int ns[i.toNat], rfl, rfl, .inl (.inl hc1), ?_, rest_read hm (by omega) hc1 q fun i' j' hi' => tail_read hm hdm hi' q⟩
      have e1 : i + 1 - 1 = (i.toNat : Int) := by omega
      rw [e1]
      have e2 : ixN (ns.map V.int).length (i.toNat : Int) = some i.toNat := by
        unfold ixN
        rw [List.length_map, if_pos (by omega), if_pos (by omega)]
        rfl
      unfold atI
      rw [e2]
      show (ns.map V.int)[i.toNat]? = _
      rw [List.getElem?_map, List.getElem?_eq_getElem hlt]
      rfl
    · exact rest_read hm (by omega) hc1 q fun i' j' hi' => tail_read hm hdm hi' q
  · have e : upd H p (.lst [.ref c, .int i, .int j, .int x]) = H := by
      funext a
      unfold upd
      by_cases ea : a = p
      · rw [if_pos ea, ea, hp]
      · rw [if_neg ea]
    have t := tail_read (K := K) (H := H) (p := p) (c := c) (x := x) (o2 := none) (o3 := none) (o4 := none) (D := { nx := fun _ H' => Q .non H', rt := Q }) (j' := j) hm hdm hi q
    rw [e] at t
    exact t
/-! ### as promises over data -/
/-- what a draw hands out: any number under m -/
def sDraw : GS := fun ds k _ => ∃ m : Int, ds = [.bag, .int m] ∧ 0 < m ∧ DivOk m ∧ ∀ d : Int, 0 ≤ d → d < m → k (.int d)
theorem sDraw_mn : MnS sDraw := fun ds k k' e e' h1 _ ⟨m, h, h2, h3, q⟩ => ⟨m, h, h2, h3, fun d a c => h1 _ (q d a c)⟩
theorem draw_lift {K : Fg} {vs : List V} {H : Hp} {Q : VK} {E : XK} (h : lift K sDraw vs H Q E) : spDraw K vs H Q E := by
  obtain ⟨b, ds, bg, r, m, rfl, h2, h3, q⟩ := h
  obtain ⟨v, w, rfl, r1, r2⟩ := r.of_cons
  obtain ⟨v2, w2, rfl, r3, r4⟩ := r2.of_cons
  rw [r4.of_nil]
  have r3 := r3.int
  subst r3
  simp only [Rep] at r1
  obtain ⟨p, rfl, eb⟩ := r1
  obtain ⟨c, i, j, x, ns, h4, h5, h6, h7⟩ := bg p eb
  refine ⟨p, c, m, i, j, x, ns, rfl, h4, h5, h6, h7, h2, h3, fun d i' j' hi' hd hdm => q d hd hdm _ _ ⟨fun a o n e _ => ?_, fun a e c2 i2 j2 m2 g g0 => ?_, fun t p hp => tab_upd h4 rfl (fun c q z => by unfold LamX.CodeO at z; cases z) (t p hp)⟩ rfl⟩
  · rw [upd_ne (fun z => n (by rw [z, eb]))]; exact e
  · have ea : a = p := Option.some.inj (e.symm.trans eb)
    subst ea
    rw [h4] at g; cases g
    exact ⟨i', j', hi', upd_same⟩
end DL
/-! DF0 -/
set_option Elab.async false
set_option linter.all false
set_option maxRecDepth 100000
set_option maxHeartbeats 4000000
/-! Own errors over ValueError, LookupError or IndexError: their making. -/
namespace DL
open PySem PySem.Spec PyProof.Rows L2
variable [TabC]
/-- the built-in class above -/
inductive EB where
  | ve | le | ie
deriving DecidableEq
def EB.nm : EB → String
  | .ve => "ValueError" | .le => "LookupError" | .ie => "IndexError"
def EB.new : EB → String
  | .ve => "ValueError.__new__" | .le => "LookupError.__new__" | .ie => "IndexError.__new__"
def EB.init : EB → String
  | .ve => "ValueError.__init__" | .le => "LookupError.__init__" | .ie => "IndexError.__init__"
def EB.tail : EB → List Value
  | .ve => [.type "ValueError", .type "Exception", .type "BaseException", .type "object"]
  | .le => [.type "LookupError", .type "Exception", .type "BaseException", .type "object"]
  | .ie => [.type "IndexError", .type "LookupError", .type "Exception", .type "BaseException", .type "object"]
theorem EB.facts : ∀ b : EB, ExcBaseFacts b.nm b.new b.init b.tail
  | .ve => PySem.F.excBase_ValueError
  | .le => PySem.F.excBase_LookupError
  | .ie => PySem.F.excBase_IndexError
theorem EB.store : ∀ b : EB, StoreFacts b.nm b.tail "object.__setattr__" "object"
  | .ve => PySem.F.store_ValueError
  | .le => PySem.F.store_LookupError
  | .ie => PySem.F.store_IndexError
/-- what the written part says of an own error's class -/
structure OexE (K : Fg) (b : EB) (C : Addr) : Prop where
  cls : ∃ nm q N bs bm sn sub ab col dd k0 k1 k2 k3 k5, K.lookup C = some (excClassObj nm q C N bs bm true sn sub ab col dd k0 k1 k2 k3 k5 b.new) ∧ PySem.W.excTail b.tail bm = true
  sa : PySem.W.findIn K (.ref C) "__setattr__" = some (some (.builtin "object.__setattr__"))
  exC : PySem.W.subIn K (.ref C) (.type "BaseException") = some true
  tyC : PySem.W.typeIn K (.ref C) = some (.type "type")
  kC : PySem.W.keepIn K (.ref C) = true
theorem over_of {K : Fg} {b : EB} {C : Addr} (T : OexE K b C) : PySem.W.excOver K C b.tail = true := by
  obtain ⟨nm, q, N, bs, bm, sn, sub, ab, col, dd, k0, k1, k2, k3, k5, hC, hbm⟩ := T.cls
  have hcl : PySem.W.clsIn K C = some { name := nm, bases := bs, mro := .ref C :: bm, ns := N, qualname := q, hasDict := true, slotNames := sn, subclasses := sub, abstract := ab, collection := col, hasDel := false } := by unfold PySem.W.clsIn; rw [hC] <;> rfl
  unfold PySem.W.excOver
  rw [hcl]
  simp [hbm]
theorem taker_none {K : Fg} {C : Addr} {f : Str} (h : PySem.W.findIn K (.ref C) f = some none) : PySem.W.takerIn K C f = some none := by
  unfold PySem.W.takerIn
  rw [h]; rfl
section
open Builtin Builtin.ObjectAttr
variable {prog : Program} {w : World} {A : Around} {E : Value → Shared → Prop} {R : Result → Shared → Prop} {hp : Heap} {g : Array GenState} {d : Drawn} {t : Nat} {os : OsState}
theorem osaE_new {K : Fg} {b : EB} {name : Str} {tk : Tok} {v : Value} {x C : Addr} {fv : Array Value} (T : OexE K b C) (X : K.In hp) (hx : hp.get? x = some { cls := .ref C, data := .fields fv }) (ha : PySem.W.findIn K (.ref C) name = some none)
    (hq : ∀ h' tk' dx, (∀ b o, b ≠ x → hp.get? b = some o → h'.get? b = some o) → hp.objs.size ≤ dx → dx ≠ x → h'.get? x = some { cls := .ref C, dict := some dx, data := .fields fv } →
      h'.Ns1 dx (fun y => if y = name then some v else none) → R (.ok (.ret .none)) ⟨h', g, d, tk', os⟩) :
    codeAny (model prog w) A (.call (.builtin "object.__setattr__") ⟨[.ref x, .str name tk, v], []⟩) R ⟨hp, g, d, t, os⟩ := by
  have I : PySem.W.InstAt hp x { cls := .ref C, data := .fields fv } C none := ⟨hx, rfl, rfl, trivial⟩
  have hxs : x ≠ hp.objs.size := Nat.ne_of_lt (Heap.lt_size hx)
  refine PySem.W.osa_openX (s := ⟨hp, g, d, t, os⟩) b.store X I (over_of T) (taker_none ha) fun ib => ?_
  obtain ⟨nm, q, N, bs, bm, sn, sub, ab, col, dd, k0, k1, k2, k3, k5, hC, hbm⟩ := T.cls
  have hcls : PySem.W.Looks (model prog w) hp (classData C) { name := nm, bases := bs, mro := .ref C :: bm, ns := N, qualname := q, hasDict := true, slotNames := sn, subclasses := sub, abstract := ab, collection := col, hasDel := false } := PySem.W.looks_clsIn X (by unfold PySem.W.clsIn; rw [hC] <;> rfl)
  show wpAny _ _ (storeInOwnDict (.ref x) (.ref C) (.str name tk) name v ib) _ _ _
  unfold storeInOwnDict ownDictForStores
  repeat (first | with_reducible refine HandSPX.store_in_new ?_ ?_ | with_reducible refine wpAny_loadPart_at hx ?_ | with_reducible refine hcls.at ?_ | wp_step)
  · exact ⟨_, #[], _, (Heap.get?_update_ne _ _ _ _ hxs.symm).trans (Heap.get?_push_at rfl rfl), rfl, fun e he => absurd he (by simp), fun _ => rfl⟩
  · intro h' tk' hn' hs
    have hx₁ : (hp.push { cls := .type "dict", data := .dict #[] }).get? x = some { cls := .ref C, data := .fields fv } := Heap.get?_push_of_some _ hx
    refine hq h' tk' hp.objs.size (fun b o hb ho => ?_) (Nat.le_refl _) hxs.symm ?_ hn'
    · exact (hs.2 b (Nat.ne_of_lt (Heap.lt_size ho))).trans ((Heap.get?_update_ne _ _ _ _ hb).trans (Heap.get?_push_of_some _ ho))
    · exact (hs.2 x hxs).trans (Heap.get?_update_self _ hx₁ rfl)
theorem osaE_old {K : Fg} {b : EB} {name : Str} {tk : Tok} {v : Value} {x C dx : Addr} {fv : Array Value} {m0 : Str → Option Value} {nl : List Str} (T : OexE K b C)
    (X : K.In hp) (hx : hp.get? x = some { cls := .ref C, dict := some dx, data := .fields fv }) (hns : hp.Ns1 dx m0) (hw : Within m0 nl) (hz : nl.length ≤ 1000) (ha : PySem.W.findIn K (.ref C) name = some none)
    (hq : ∀ h' tk', (∀ b o, b ≠ dx → hp.get? b = some o → h'.get? b = some o) → h'.Ns1 dx (fun y => if y = name then some v else m0 y) → R (.ok (.ret .none)) ⟨h', g, d, tk', os⟩) :
    codeAny (model prog w) A (.call (.builtin "object.__setattr__") ⟨[.ref x, .str name tk, v], []⟩) R ⟨hp, g, d, t, os⟩ := by
  obtain ⟨oD, esD, epD, hoD, hdD, _⟩ := hns.count hw
  have I : PySem.W.InstAt hp x { cls := .ref C, dict := some dx, data := .fields fv } C (some oD) := ⟨hx, rfl, rfl, hoD⟩
  refine PySem.W.osa_openX (s := ⟨hp, g, d, t, os⟩) b.store X I (over_of T) (taker_none ha) fun ib => ?_
  obtain ⟨nm, q, N, bs, bm, sn, sub, ab, col, dd, k0, k1, k2, k3, k5, hC, hbm⟩ := T.cls
  have hcls : PySem.W.Looks (model prog w) hp (classData C) { name := nm, bases := bs, mro := .ref C :: bm, ns := N, qualname := q, hasDict := true, slotNames := sn, subclasses := sub, abstract := ab, collection := col, hasDel := false } := PySem.W.looks_clsIn X (by unfold PySem.W.clsIn; rw [hC] <;> rfl)
  show wpAny _ _ (storeInOwnDict (.ref x) (.ref C) (.str name tk) name v ib) _ _ _
  unfold storeInOwnDict ownDictForStores
  repeat (first | with_reducible refine PySem.OEX.store_in_old hns hw hz ?_ | with_reducible refine wpAny_loadPart_at hx ?_ | with_reducible refine hcls.at ?_ | wp_step)
  intro h' tk' hn' hs
  exact hq h' tk' (fun b o hb ho => (hs.2 b hb).trans ho) hn'
end
section
variable {X : Cx} {pins : List (Addr × Obj)} {σ : L2.St} {H : Hp} {s : Shared} {b : EB} {a C dx : Addr} {f : Str} {y : V} {u : Value} {fs : List (Str × V)} {Q : Unit → Shared → Prop} {E : Value → Shared → Prop} {A : Around}
/-- self.f = y, the first one -/
theorem ostE_new (T : OexE X.K b C) (I : Inv X pins σ H s) (e : H a = some (exo a C none)) (hno : PySem.W.findIn X.K (.ref C) f = some none) (ry : RelV y u)
    (h : ∀ dx s', H dx = none → dx ≠ a → Inv X pins σ (upd (upd H dx (exd dx [(f, y)])) a (exo a C (some dx))) s' → Q () s') : wpAny (model X.prog X.w) A (setAttr (.ref a) f u) Q E s := by
  obtain ⟨t1, ho⟩ := exo_at I.hok e
  obtain ⟨hp, g, d, t, os⟩ := s
  refine PySem.W.set_plain I.kIn (ox := { cls := .ref C, dict := none, data := .fields #[.ref t1, .none, .none, .none, .bool false, .none] }) (od := none) ⟨ho, rfl, rfl, trivial⟩ T.sa ?_
  refine osaE_new T I.kIn ho hno (fun h' tk' dx k dn dne hx hn => ?_)
  have hnd : H dx = none := I.hok.fresh dn
  have nd : ∀ {b : Addr} {o : Obj}, hp.get? b = some o → b ≠ dx := fun {b o} q => Nat.ne_of_lt (Nat.lt_of_lt_of_le (Heap.lt_size q) dn)
  have na : ∀ {b : Addr}, H b = none → b ≠ a := fun {b} n z => by
    rw [z, e] at n
    cases n
  have Un1 : Un X.fs [] H (upd (upd H dx (exd dx [(f, y)])) a (exo a C (some dx))) hp h' := {
    keep := fun b o q n _ _ => k b o (na n) q
    slot := fun b o q n _ _ => ⟨o.slots, k b o (na n) q⟩
    free := fun b o q n _ => by rw [upd_ne (na n), upd_ne (nd q)]; exact n
    there := fun b o q _ => by
      by_cases hb : b = a
      · exact ⟨_, by rw [hb]; exact hx⟩
      · exact ⟨o, k b o hb q⟩
    tups := fun b xs q => by rw [upd_ne (at_ne e q exo_tup), upd_ne (ne_of_none q hnd)]; exact q
    frzs := fun b o v q => by rw [upd_ne (at_ne e q exo_frz), upd_ne (ne_of_none q hnd)]; exact q
    tbls := fun b ps q => ⟨#[], by rw [upd_ne (at_ne e q exo_tbl), upd_ne (ne_of_none q hnd), q]; simp⟩ }
  refine h dx _ hnd dne (I.un (t' := tk') Un1 fun b o q => ?_)
  by_cases hb : b = a
  · subst hb
    rw [upd_same] at q
    cases q
    exact exo_ok hx
  · rw [upd_ne hb] at q
    by_cases hd : b = dx
    · subst hd
      rw [upd_same] at q
      cases q
      exact exd_ok hn (relO_put (fs := []) ry fun g => True.intro)
    · rw [upd_ne hd] at q
      exact (I.hok b o q).stay (fun c v hc z => k c v (by
          rcases hc with hc | hc
          · rw [hc]
            exact hb
          · exact at_ne e hc exo_own) z)
        (fun c hc => by rw [upd_ne (at_ne e hc exo_own), upd_ne (ne_of_none hc hnd)]; exact hc) (fun c xs hc => by rw [upd_ne (at_ne e hc exo_tup), upd_ne (ne_of_none hc hnd)]; exact hc)
/-- self.f = y, a further one -/
theorem ostE_old (T : OexE X.K b C) (I : Inv X pins σ H s) (e : H a = some (exo a C (some dx))) (ed : H dx = some (exd dx fs)) (hl : fs.length ≤ 900) (hno : PySem.W.findIn X.K (.ref C) f = some none) (ry : RelV y u)
    (h : ∀ s', Inv X pins σ (upd H dx (exd dx ((f, y) :: fs))) s' → Q () s') : wpAny (model X.prog X.w) A (setAttr (.ref a) f u) Q E s := by
  obtain ⟨t1, ho⟩ := exo_at I.hok e
  obtain ⟨mA, hns, rel⟩ := exd_at I.hok ed
  have hw := within_of rel
  obtain ⟨hp, g, d, t, os⟩ := s
  obtain ⟨oD, _, _, hoD, _, _⟩ := hns.count hw
  refine PySem.W.set_plain I.kIn (ox := { cls := .ref C, dict := some dx, data := .fields #[.ref t1, .none, .none, .none, .bool false, .none] }) (od := some oD) ⟨ho, rfl, rfl, hoD⟩ T.sa ?_
  refine osaE_old T I.kIn ho hns hw (by rw [List.length_map]; omega) hno (fun h' tk' k hn => ?_)
  have hd : ∃ o, h'.get? dx = some o := by
    obtain ⟨o, _, _, e', _⟩ := hn
    exact ⟨o, e'⟩
  exact h _ (I.write (t' := tk') (x := dx) (e := dx) (o := exd dx ((f, y) :: fs)) (by rw [ed]; exact True.intro) (.inl rfl) k hd (exd_ok hn (relO_put ry rel)))
/-- Base.__init__(self, ..) -/
theorem oinitE_ok {us : List Value} {Q : Value → Shared → Prop} (T : OexE X.K b C) (I : Inv X pins σ H s) (e : H a = some (exo a C none)) (hl : us.length ≤ sizeLine) (h : ∀ s', Inv X pins σ H s' → Q .none s') :
    wpAny (model X.prog X.w) A (call (.builtin b.init) (.ref a :: us)) Q E s := by
  obtain ⟨nm, q, N, bs, bm, sn, sub, ab, col, dd, k0, k1, k2, k3, k5, hC, hbm⟩ := T.cls
  obtain ⟨t1, ho⟩ := exo_at I.hok e
  obtain ⟨hp, g, d, t, os⟩ := s
  refine wpAny_call (PySem.HandSPX.init_base b.facts (fun Y => PySem.W.excTail_contains Y bm hbm) (I.kIn _ _ hC) ho hl fun h' t2 k hx => ?_)
  have J := I.write (t' := t) (x := a) (e := a) (o := exo a C none) (by rw [e]; exact True.intro) (.inl rfl) k ⟨_, hx⟩ (exo_ok hx)
  have eu : upd H a (exo a C none) = H := by
    funext b
    by_cases hb : b = a
    · rw [hb, upd_same, e]
    · rw [upd_ne hb]
  rw [eu] at J
  exact h _ J
end
/-! ### readings and rules -/
def tVeE (K : Fg) (b : EB) (ta : TA) : TE := fun σ H Q => ta σ H fun vs H1 => ∃ (a C : Addr) (ws : List V), vs = .ref a :: ws ∧ ws.length ≤ 1000 ∧ OexE K b C ∧ H1 a = some (exo a C none) ∧ Q .non H1
def tOsE (K : Fg) (b : EB) (f : Str) (to te : TE) : TS := fun D σ H => te σ H fun y H1 => to σ H1 fun x H2 => ∃ a C : Addr, x = .ref a ∧ OexE K b C ∧ PySem.W.findIn K (.ref C) f = some none ∧
  ((H2 a = some (exo a C none) ∧ ∀ dx, H2 dx = none → dx ≠ a → D.nx σ (upd (upd H2 dx (exd dx [(f, y)])) a (exo a C (some dx)))) ∨
    ∃ (dx : Addr) (fs : List (Str × V)), H2 a = some (exo a C (some dx)) ∧ H2 dx = some (exd dx fs) ∧ fs.length ≤ 900 ∧ D.nx σ (upd H2 dx (exd dx ((f, y) :: fs))))
theorem ps_osE {X : Cx} (b : EB) {o e : Expr} {to te : TE} {f : Str} {p' pos : Pos} (ho : PE X o to) (he : PE X e te) (hs : swapsWith e (some (.Attribute o f p')) pos.line X.env = pure false := by rfl) : PS X (.Assign [.Attribute o f p'] e pos) (tOsE X.K b f to te) := by
  refine ⟨fun pins s σ H D I h => ?_⟩
  refine plainObj_wpAny_Assign_Attribute (thn (he.run pins s σ H _ I h) fun v s1 ⟨y, H1, I1, r1, q1⟩ => thn (ho.run pins s1 σ H1 _ I1 q1) fun u s2 ⟨x, H2, I2, r2, a, C, ex, T, hno, q⟩ => ?_) hs
  subst ex
  obtain rfl : u = Value.ref a := r2
  rcases q with ⟨ea, q⟩ | ⟨dx, fs, ea, ed, hl, q⟩
  · exact ostE_new T I2 ea hno r1 fun dx s' n ne J => ⟨σ, _, J, q dx n ne⟩
  · exact ostE_old T I2 ea ed hl hno r1 fun s' J => ⟨σ, _, J, q⟩
/-- a built-in base's __init__, by the base's own name -/
theorem typ_EB : ∀ b : EB, typeOf (.type b.nm) = pure (.type "type")
  | .ve => by show typeOf (.type "ValueError") = _; kernel_rfl
  | .le => by show typeOf (.type "LookupError") = _; kernel_rfl
  | .ie => by show typeOf (.type "IndexError") = _; kernel_rfl
end DL
/-! DF2 -/
set_option Elab.async false
set_option linter.all false
set_option maxRecDepth 100000
set_option maxHeartbeats 4000000
/-! The program's own errors: their making, raise. -/
namespace DL
open PySem PySem.Spec PyProof.Rows L2
variable [TabC]
/-! ### Base.__init__(self, ..) by the base's own name -/
section
variable {X : Cx} {o e : Expr} {es : List Expr} {to te : TE} {ta : TA} {f : Str} {p p' p1 p2 pos : Pos} {x : Str} {S C : Addr}
structure BaseOk (K : Fg) (b : EB) (S : Addr) : Prop where
  ga : PySem.W.specialIn K (.ref S) "__getattribute__" = some (some (.builtin "type.__getattribute__"))
  rd : PySem.W.readsIn K S (.type "type") = true
  fc : PySem.W.findCls K (.ref S) (.type "type") "__init__" = some (.val (.builtin b.init))
theorem pe_bsinit {b : EB} {pl : Sem Bool} (hg : Gl X x) (hm : X.mg x = some (.ref S)) (B : BaseOk X.K b S) (ha : PA X (e :: es) ta) (hdb : (x == ("__debug__" : Str)) = false := by decide)
    (hc : eval (.Call (.Attribute (.Name x p1) "__init__" p2) (e :: es) [] pos) X.env = (do
      let ov ← eval (.Name x p1) X.env
      standAt p2.atName
      let (f, first) ← holding [ov] (getMethod ov "__init__" pl)
      callWith pos f first (backTo pos (starEach (e :: es) X.env)) (backToKw pos (keywordEach [] X.env))) := by rfl)
    (he : starEach (e :: es) X.env = (false, eval e X.env) :: starEach es X.env := by rfl) (hpl : (backTo pos (starEach es X.env)).any (·.1) = false := by rfl) :
    PE X (.Call (.Attribute (.Name x p1) "__init__" p2) (e :: es) [] pos) (tVeE X.K b ta) := by
  refine ⟨fun pins s σ H Q I h => ?_⟩
  refine PySem.W.methodCall_KW (ld_glob I hg hm ?_ hdb) hc
  refine PySem.W.method_cls I.kIn B.ga (PySem.W.cls_value I.kIn B.rd B.fc (by cases b <;> decide +kernel) ?_)
  show wpAny _ _ (callWith pos (Value.builtin b.init) [] (backTo pos (starEach (e :: es) X.env)) []) _ _ _
  refine PyProof.Rows.callWith_method1 (thn (ha.run pos pins _ σ H _ (I.tok _) h) fun us s1 ⟨vs, H1, I1, r1, a, C, ws, ev, hl, T, ea, q⟩ => ?_) he hpl
  subst ev
  cases r1 with
  | @cons _ u0 _ ur ra rw' =>
    obtain rfl : u0 = Value.ref a := ra
    have hlen : ur.length ≤ sizeLine := by
      rw [← Paired.length rw', sizeLine_eq]
      omega
    exact oinitE_ok T I1 ea hlen fun s' J => ⟨.non, H1, J, rfl, q⟩
/-- IndexError.__init__(self, ..) -/
theorem pe_ieinit {pl : Sem Bool} (hg : Gl X "IndexError") (hm : X.mg "IndexError" = none) (vV : PySem.W.findCls X.K (.type "IndexError") (.type "type") "__init__" = some (.val (.builtin "IndexError.__init__"))) (ha : PA X (e :: es) ta)
    (hc : eval (.Call (.Attribute (.Name "IndexError" p1) "__init__" p2) (e :: es) [] pos) X.env = (do
      let ov ← eval (.Name "IndexError" p1) X.env
      standAt p2.atName
      let (f, first) ← holding [ov] (getMethod ov "__init__" pl)
      callWith pos f first (backTo pos (starEach (e :: es) X.env)) (backToKw pos (keywordEach [] X.env))) := by rfl)
    (he : starEach (e :: es) X.env = (false, eval e X.env) :: starEach es X.env := by rfl) (hpl : (backTo pos (starEach es X.env)).any (·.1) = false := by rfl) :
    PE X (.Call (.Attribute (.Name "IndexError" p1) "__init__" p2) (e :: es) [] pos) (tVeE X.K .ie ta) := by
  refine ⟨fun pins s σ H Q I h => ?_⟩
  refine PySem.W.methodCall_KW (ld_blt I hg hm PyProof.Rows.Boot.«IndexError» ?_ (by decide) (by decide)) hc
  obtain ⟨m, fr⟩ := I.fr
  refine PySem.W.method_type fr I.ok.mod.kin (typ_EB .ie) (by decide +kernel) vV (by decide +kernel) ?_
  show wpAny _ _ (callWith pos (Value.builtin "IndexError.__init__") [] (backTo pos (starEach (e :: es) X.env)) []) _ _ _
  refine PyProof.Rows.callWith_method1 (thn (ha.run pos pins _ σ H _ (I.tok _) h) fun us s1 ⟨vs, H1, I1, r1, a, C, ws, ev, hl, T, ea, q⟩ => ?_) he hpl
  subst ev
  cases r1 with
  | @cons _ u0 _ ur ra rw' =>
    obtain rfl : u0 = Value.ref a := ra
    have hlen : ur.length ≤ sizeLine := by
      rw [← Paired.length rw', sizeLine_eq]
      omega
    exact oinitE_ok (b := .ie) T I1 ea hlen fun s' J => ⟨.non, H1, J, rfl, q⟩
def ieB (K : Fg) : Bool := match PySem.W.findCls K (.type "IndexError") (.type "type") "__init__" with | some (.val (.builtin n)) => n == "IndexError.__init__" | _ => false
theorem ieB_ok {K : Fg} (h : ieB K = true) : PySem.W.findCls K (.type "IndexError") (.type "type") "__init__" = some (.val (.builtin "IndexError.__init__")) := by
  unfold ieB at h
  split at h
  · rename_i n e
    rw [e, beq_iff_eq.mp h]
  · cases h
end
/-! ### what an error's __init__ promises -/
abbrev cdS : Str := "code"
def errFs (code : Str) (flds : List Str) (ws : List V) : List (Str × V) := (flds.zip ws).reverse ++ [(cdS, V.str code)]
def spErr (C : Addr) (code : Str) (flds : List Str) : Sp := fun vs H Q _ => ∃ (a : Addr) (ws : List V), vs = V.ref a :: ws ∧ ws.length = flds.length ∧ H a = some (exo a C none) ∧
  ∀ dx H2, H dx = none → dx ≠ a → H2 a = some (exo a C (some dx)) → H2 dx = some (exd dx (errFs code flds ws)) → (∀ b, b ≠ a → b ≠ dx → H2 b = H b) → Q .non H2
abbrev tBase (K : Fg) (b : EB) (txt : Str) : TS := tDrop (tVeE K b (tCons (tVar 0) (tCons (tC (.str txt)) tNil)))
def tErr0 (K : Fg) (b : EB) (txt code : Str) : TS := tSeq (tBase K b txt) (tOsE K b cdS (tVar 0) (tC (.str code)))
def tErr1 (K : Fg) (b : EB) (txt code f1 : Str) : TS := tSeq (tBase K b txt) (tSeq (tOsE K b cdS (tVar 0) (tC (.str code))) (tOsE K b f1 (tVar 0) (tVar 1)))
def tErr2 (K : Fg) (b : EB) (txt code f1 f2 : Str) : TS := tSeq (tBase K b txt) (tSeq (tOsE K b cdS (tVar 0) (tC (.str code))) (tSeq (tOsE K b f1 (tVar 0) (tVar 1)) (tOsE K b f2 (tVar 0) (tVar 2))))
structure ErrC (K : Fg) (b : EB) (C : Addr) (flds : List Str) : Prop where
  T : OexE K b C
  no : ∀ f ∈ cdS :: flds, PySem.W.findIn K (.ref C) f = some none
section
variable {K : Fg} {b : EB} {C : Addr} {txt code f1 f2 : Str} {N : List Str} {vs : List V} {H : Hp} {Q : VK} {E : XK}
theorem err_read0 (T : ErrC K b C []) (h : spErr C code [] vs H Q E) (hN : N.length = 1) : tErr0 K b txt code { nx := fun _ H' => Q .non H', rt := Q } (L2.start N vs) H := by
  obtain ⟨a, ws, rfl, hl, ha, q⟩ := h
  cases ws with
  | cons _ _ => simp at hl
  | nil =>
    refine ⟨.ref a, rfl, a, C, [.str txt], rfl, (by simp), T.T, ha, ?_⟩
    refine ⟨.ref a, rfl, a, C, rfl, T.T, T.no _ (by simp), .inl ⟨ha, fun dx hd ne => ?_⟩⟩
    exact q dx _ hd ne upd_same (by rw [upd_ne ne, upd_same]; rfl) fun b h1 h2 => by rw [upd_ne h1, upd_ne h2]
theorem err_read1 (T : ErrC K b C [f1]) (h : spErr C code [f1] vs H Q E) (hN : N.length = 2) : tErr1 K b txt code f1 { nx := fun _ H' => Q .non H', rt := Q } (L2.start N vs) H := by
  obtain ⟨a, ws, rfl, hl, ha, q⟩ := h
  cases ws with
  | nil => simp at hl
  | cons w ws =>
    cases ws with
    | cons _ _ => simp at hl
    | nil =>
      refine ⟨.ref a, rfl, a, C, [.str txt], rfl, (by simp), T.T, ha, ?_⟩
      refine ⟨.ref a, rfl, a, C, rfl, T.T, T.no _ (by simp), .inl ⟨ha, fun dx hd ne => ?_⟩⟩
      refine ⟨w, rfl, .ref a, rfl, a, C, rfl, T.T, T.no _ (by simp), .inr ⟨dx, [(cdS, .str code)], upd_same, by rw [upd_ne ne, upd_same], (by simp), ?_⟩⟩
      exact q dx _ hd ne (by rw [upd_ne (Ne.symm ne), upd_same]) (by rw [upd_same]; rfl) fun b h1 h2 => by rw [upd_ne h2, upd_ne h1, upd_ne h2]
theorem err_read2 (T : ErrC K b C [f1, f2]) (h : spErr C code [f1, f2] vs H Q E) (hN : N.length = 3) : tErr2 K b txt code f1 f2 { nx := fun _ H' => Q .non H', rt := Q } (L2.start N vs) H := by
  obtain ⟨a, ws, rfl, hl, ha, q⟩ := h
  obtain ⟨w, w2, rfl⟩ : ∃ w w2, ws = [w, w2] := by
    cases ws with
    | nil => simp at hl
    | cons w ws =>
      cases ws with
      | nil => simp at hl
      | cons w2 ws =>
        cases ws with
        | nil => exact ⟨w, w2, rfl⟩
        | cons _ _ => simp at hl
  refine ⟨.ref a, rfl, a, C, [.str txt], rfl, (by simp), T.T, ha, ?_⟩
  refine ⟨.ref a, rfl, a, C, rfl, T.T, T.no _ (by simp), .inl ⟨ha, fun dx hd ne => ?_⟩⟩
  refine ⟨w, rfl, .ref a, rfl, a, C, rfl, T.T, T.no _ (by simp), .inr ⟨dx, [(cdS, .str code)], upd_same, by rw [upd_ne ne, upd_same], (by simp), ?_⟩⟩
  refine ⟨w2, rfl, .ref a, rfl, a, C, rfl, T.T, T.no _ (by simp), .inr ⟨dx, [(f1, w), (cdS, .str code)], by rw [upd_ne (Ne.symm ne), upd_same], by rw [upd_same], (by simp), ?_⟩⟩
  exact q dx _ hd ne (by rw [upd_ne (Ne.symm ne), upd_ne (Ne.symm ne), upd_same]) (by rw [upd_same]; rfl) fun b h1 h2 => by rw [upd_ne h2, upd_ne h2, upd_ne h1, upd_ne h2]
end
/-! ### raise C(..) -/
def errNs (flds : List Str) : List Str := flds.reverse ++ [cdS]
def errX (c code : Str) (flds : List Str) (ds : List D) : XD := ⟨c, errNs flds, ds.reverse ++ [D.str code]⟩
theorem zip_rev_app {α β : Type} (x : α) (y : β) : ∀ (l : List α) (m : List β), l.length = m.length → (l.zip m).reverse ++ [(x, y)] = (l.reverse ++ [x]).zip (m.reverse ++ [y]) := by
  intro l m h
  rw [List.zip_append (by simpa using h)]
  congr 1
  show (List.zipWith Prod.mk l m).reverse = List.zipWith Prod.mk l.reverse m.reverse
  exact List.reverse_zipWith h
theorem errFs_zip {code : Str} {flds : List Str} {ws : List V} (h : ws.length = flds.length) : errFs code flds ws = (errNs flds).zip (ws.reverse ++ [V.str code]) := zip_rev_app _ _ _ _ h.symm
theorem Reps.reverse {K : Fg} {b : Option Addr} {H : Hp} : ∀ {ds : List D} {vs : List V}, Reps K b H ds vs → Reps K b H ds.reverse vs.reverse
  | [], _, h => by rw [h.of_nil]; exact Reps.nil
  | d :: r, vs, h => by
    obtain ⟨v, q, rfl, h1, h2⟩ := h.of_cons
    rw [List.reverse_cons, List.reverse_cons]
    exact (Reps.reverse h2).append (Reps.cons h1 Reps.nil)
def gRaise (c code : Str) (flds : List Str) (dd : List D) (eo : XD → Prop) (ga : GA) : GSt := fun _ σ => ga σ fun ds => (ds ++ dd).length = flds.length ∧ ds.length ≤ 900 ∧ eo (errX c code flds (ds ++ dd))
section
variable {X : Cx} {eb : EB} {b : Option Addr} {H0 : Hp} {E : XK} {eo : XD → Prop} {c code : Str} {flds : List Str} {ga : GA} {e : Expr} {es : List Expr} {p pos pos' : Pos} {x : Str} {k : Nat} {fI : Addr} {fd : FuncData} {ps : List Str} {dd : List D} {dvs : List V} {dus : List Value}
/-- what stands of the class and its __init__ -/
structure ErrK (K : Fg) (eb : EB) (c : Str) (fI : Addr) (flds : List Str) : Prop where
  C : ErrC K eb (He.ga K c) flds
  iC : PySem.W.findIn K (.ref (He.ga K c)) "__init__" = some (some (.ref fI))
  tI : PySem.W.typeIn K (.ref fI) = some (.type "function")
end
end DL
/-! DF3 -/
set_option Elab.async false
set_option linter.all false
set_option maxRecDepth 100000
set_option maxHeartbeats 4000000
/-! A question told or refused: try .. except (A, B, C) as e, the error's fields, a lambda handed in. -/
namespace DL
open PySem PySem.Spec PyProof.Rows L2
/-! ### except (A, B, C) as e -/
/-! ### a field of the error that is caught -/
/-! ### a def called there: the error stands pinned -/
end DL
/-! DF4 -/
set_option Elab.async false
set_option linter.all false
set_option maxRecDepth 100000
set_option maxHeartbeats 4000000
/-! _law_field, _law_why, a lambda handed to it. -/
namespace DL
open PySem PySem.Spec PyProof.Rows L2
variable [TabC]
/-! ### _law_field -/
def inAny (c : Str) (l : List Str) : Bool := l.any fun z => decide (z = c)
abbrev l1 : List Str := ["InvalidPlaces", "InvalidTurns", "InvalidRows", "InvalidCommand"]
abbrev l2 : List Str := ["InvalidNumber", "InvalidTable", "InvalidKind", "InvalidText", "InvalidSign", "InvalidLimit"]
abbrev l3 : List Str := ["InvalidName", "DuplicateName", "UnknownName", "WrongSort"]
abbrev l4 : List Str := ["InvalidLine", "InvalidPage"]
abbrev sTM : Str := "TooMany"
abbrev sIU : Str := "InUse"
abbrev sFu : Str := "Full"
abbrev sWK : Str := "WrongKind"
abbrev n_at : Str := "at"
abbrev n_gi : Str := "given"
abbrev n_na : Str := "name"
abbrev n_li : Str := "line"
abbrev n_mo : Str := "most"
abbrev n_su : Str := "subject"
abbrev n_us : Str := "users"
abbrev n_lm : Str := "limit"
abbrev n_wo : Str := "word"
def fieldNames (c : Str) : List Str :=
  if inAny c l1 = true then [n_at] else if inAny c l2 = true then [n_gi] else if inAny c l3 = true then [n_na] else if inAny c l4 = true then [n_li]
  else if decide (c = sTM) = true then [n_mo, n_su] else if decide (c = sIU) = true then [n_na, n_us] else if decide (c = sFu) = true then [n_lm] else if decide (c = sWK) = true then [n_wo] else []
section
variable {K : Fg} {a C dd : Addr} {fs : List (Str × V)} {H : Hp} {code : Str} {D : Ends}
structure Cau (K : Fg) (C dd : Addr) (fs : List (Str × V)) (code : Str) (H : Hp) : Prop where
  T : XfC K C
  no : ∀ n ∈ cdS :: fieldNames code, PySem.W.findIn K (.ref C) n = some none
  at_ : H dd = some (.xd fs)
  co : fs.lookup cdS = some (.str code)
theorem Cau.ext {H' : Hp} (c : Cau K C dd fs code H) (e : ∀ a o, H a = some o → H' a = some o) : Cau K C dd fs code H' := ⟨c.T, c.no, e _ _ c.at_, c.co⟩
def lk {α : Type} (fs : List (Str × α)) (n : Str) : Option α := fs.lookup n
/-- the fields told, in a new tuple -/
def Told (fs : List (Str × V)) (ns : List Str) (H : Hp) (Q : VK) : Prop := ∃ vs, ns.mapM (lk fs) = some vs ∧ ∀ H' p, (∀ a o, H a = some o → H' a = some o) → H' p = none → Q (.ref p) (upd H' p (.tup vs))
theorem Told.ext {ns : List Str} {H' : Hp} {Q : VK} (t : Told fs ns H Q) (e : ∀ a o, H a = some o → H' a = some o) : Told fs ns H' Q := by
  obtain ⟨vs, h, q⟩ := t
  exact ⟨vs, h, fun H2 p k hp => q H2 p (fun a o z => k a o (e a o z)) hp⟩
end
end DL
/-! DF5 -/
set_option Elab.async false
set_option linter.all false
set_option maxRecDepth 100000
set_option maxHeartbeats 4000000
/-! _law_why(lambda: ..), as data. -/
namespace DL
open PySem PySem.Spec PyProof.Rows L2
/-! ### the error as data -/
/-! ### the body of _law_why -/
/-! ### _law_why(lambda: body) -/
end DL
/-! DF6 -/
set_option Elab.async false
set_option linter.all false
set_option maxRecDepth 100000
set_option maxHeartbeats 4000000
/-! Keyword calls, built-ins of more operands, the law's start and end. -/
namespace DL
open PySem PySem.Spec PyProof.Rows L2
variable [TabC]
theorem cz_none {X : Cx} {b : Option Addr} {H0 : Hp} : Cz X b H0 (fun _ _ _ => False) (fun _ => False) := ⟨fun pins σ H s e s' I c => by
  obtain ⟨_, _, _, _, _, _, _, _, _, _, _, _, q⟩ := c
  exact q.elim, fun x cls d H' h => h.elim⟩
/-! ### f(k = e, ..) -/
structure DK (b : Option Addr) (H0 : Hp) (X : Cx) (kws : List Keyword) (g : GA) : Prop where
  pk : PK X kws (LA X.K b H0 g)
  mn : Mn g
section
variable {X : Cx} {b : Option Addr} {H0 : Hp} {e : Expr} {ge : GE} {g ga : GA} {kws : List Keyword} {nm : Option Str} {kpos p pos : Pos}
theorem dk_nil : DK b H0 X [] gNil := ⟨⟨fun pos pins s σ H Q I ⟨σd, O, R, q⟩ => pk_nil.run pos pins s σ H Q I (q [] H (.refl H) Reps.nil)⟩, fun σ k k' i q => i _ q⟩
theorem dk_cons (A : DE b H0 X e ge) (B : DK b H0 X kws g) : DK b H0 X (⟨nm, e, kpos⟩ :: kws) (gCons ge g) := by
  refine ⟨⟨fun pos pins s σ H Q I ⟨σd, O, R, q⟩ => (pk_cons A.pe B.pk).run pos pins s σ H Q I ?_⟩, gCons_mn A.mn B.mn⟩
  refine ⟨σd, O, R, A.mn _ _ _ (fun x hx v H1 x1 r1 => ?_) q⟩
  exact ⟨σd, O, R.mono x1, B.mn _ _ _ (fun y hy vs H2 x2 r2 => hy (v :: vs) H2 (x1.trans x2) (Reps.cons (r1.mono (x2.1.hide O)) r2)) hx⟩
/-- only keywords, each parameter named once: perm puts the values in the parameters' order -/
def gCallK (s : GS) (perm : {α : Type} → List α → List α) (eo : XD → Prop) (ga : GA) : GE := fun σ k => ga σ fun ds => s (perm ds) k eo
/-! ### built-ins of more operands -/
def gCl (rd : List D → (D → Prop) → Prop) (ga : GA) : GE := fun σ k => ga σ fun ds => rd ds k
end
/-! ### the law: the bag is made, the rest is read as data -/
section
variable {X : Cx} {st : Stmt} {sts : List Stmt}
def tBagged (K : Fg) (g : GSt) : TS := fun D σ H => ∃ (b : Option Addr) (H0 : Hp), LamX.Tabs TabC.T H0 ∧ LS K b H0 g D σ H
theorem pss_bagged {g : GSt} (h : ∀ (b : Option Addr) (H0 : Hp), LamX.Tabs TabC.T H0 → DSs b H0 X sts g) : PSs X sts (tBagged X.K g) := ⟨fun pins s σ H D I ⟨b, H0, hT, q⟩ => (h b H0 hT).ps.run pins s σ H D I q⟩
/-- the state behind the making of the bag: slot 1 holds it -/
theorem rst_bag {K : Fg} {a c p : Addr} {H : Hp} {ms : List Int} {m : Int} {n : Nat} (hc : c ≠ p) (h1 : H c = some (.lst (ms.map V.int))) (h2 : H p = some (.lst [.ref c, .int 0, .int 0, .int m])) :
    Rst K (some p) H (.unset :: .sh .bag :: List.replicate n .unset) ((L2.start ([] : List Str) [V.ref a]) ++ [some (V.ref p)] ++ List.replicate n none) H [] where
  len := by simp [L2.start]
  slot := fun i => by
    cases i with
    | zero => trivial
    | succ i =>
      cases i with
      | zero => exact ⟨.ref p, rfl, by simp only [Rep]; exact ⟨p, rfl, rfl⟩⟩
      | succ i =>
        show SlotOk K (some p) [] H (look (List.replicate n SD.unset) i) _
        rw [look_rep]; trivial
  uniq := fun i j a' g _ => by
    cases i with
    | zero => exact g.elim
    | succ i =>
      cases i with
      | zero => exact g.elim
      | succ i =>
        have g : Owns (look (List.replicate n SD.unset) i) _ a' := g
        rw [look_rep] at g; exact g.elim
  nb := fun a m => by cases m
  le := by rw [hide_nil]; exact .refl H
  bg := by
    rw [hide_nil]
    intro p' e
    cases e
    exact ⟨c, 0, 0, m, ms, h2, hc, h1, by decide⟩
/-- what the law is asked: any list of ints -/
def spLaw (K : Fg) : Sp := fun vs H Q _ => ∃ (a : Addr) (ns : List Int), vs = [.ref a] ∧ SqL K H a (ns.map V.int) ∧ ns.length ≤ 1000000 ∧ LamX.Tabs TabC.T H ∧ ∀ H', Q (.bl true) H'
abbrev tBagCall (K : Fg) : TS := tAsg (tCall (spBag K) [] C8.E0 (tCons (tVar 0) tNil)) (gName 1)
theorem law_read {K : Fg} {vs : List V} {H : Hp} {Q : VK} {E : XK} {g : GSt} {N : List Str} (hN : 2 ≤ N.length) (h : spLaw K vs H Q E) (m : MnD g) (r : g (fin fun d => d = .bl true) (.unset :: .sh .bag :: List.replicate (N.length - 2) .unset)) :
    tSeq (tBagCall K) (tBagged K g) { nx := fun _ H' => Q .non H', rt := Q } (L2.start N vs) H := by
  obtain ⟨a, ns, rfl, hs, hl, hT, q⟩ := h
  have es : ∀ x : Option V, (L2.start N [V.ref a]).set 1 x = (L2.start ([] : List Str) [V.ref a]) ++ [x] ++ List.replicate (N.length - 2) none := fun x => by
    obtain ⟨n, hn⟩ : ∃ n, N.length = n + 2 := ⟨N.length - 2, by omega⟩
    have e1 : L2.start N [V.ref a] = some (V.ref a) :: none :: List.replicate n none := by
      unfold L2.start
      rw [show N.length - [V.ref a].length = n + 1 by simp [hn]]
      rfl
    rw [e1, hn]
    rfl
  refine ⟨.ref a, rfl, a, ns, rfl, hs, hl, fun c p H' ms m' kp hc hp ne h1 h2 => ?_⟩
  show tBagged K g _ ((L2.start N [V.ref a]).set 1 (some (.ref p))) H'
  rw [es]
  refine ⟨some p, H', hT.ext kp, _, [], rst_bag ne h1 h2, m (fin _) _ _ (fun σ z => ?_) (fun d z v H2 x2 r2 => ?_) (fun σ z => z.elim) (fun σ z => z.elim) r⟩
  · cases z
  · subst z
    cases r2.bl
    exact q H2
end
/-! ### the end -/
theorem walk_ofX {l : PySem.W.OpenLaw} {n k : Nat} {q : Program} {loose : List Str} {XP : (Str → Option Value) → Heap → Prop} {YP : World → Heap → Prop} {d : DefRec} {CX : World → CXT} {x : Str}
    (hn : l.most = some n) (hn2 : n ≤ sizeLine) (hdf : d.params.defaults = []) (hr : Room k callerA)
    (F : ∀ (w : World) (mg : Str → Option Value) (fa : Addr) (h : Heap), YP w h → h.Ns mainGlobals mg → mg d.name = some (.ref fa) → ∃ K : Fg, K.In h ∧ LamX.LawAtS l w K (CX w) k n x mg fa h)
    (hCX : ∀ (w : World) (H : Hp) (s : Shared) (e : Value) (s' : Shared), CX w [] H s (fun _ _ _ => False) e s' → False) :
    PySem.W.WalkO q loose XP YP l.row.toRowW d [] (fun f vs => PySem.call f vs) := by
  refine Att.attach_callB hn hdf fun w s₀ s₁ mg mb fa o pm cd doc a vs ns G Y ho hd hcd hmg hobj hints hlen hbits hg => ?_
  obtain ⟨K, KX, fd, cs, sp, hT, nT, C, hb, hsp, hF⟩ := F w mg fa _ Y G.T.g hmg
  exact LamX.law_callTs KX G.T.g G.T.b G.T.builtins G.T.nolimit hg hT nT C G.T.bmain hobj hints (Nat.le_trans hlen hn2) hr hF hb (fun H hH hS => hsp H a ns hlen hbits hH hS) fun H e s' => hCX w H s₁ e s'
end DL
/-! DF7 -/
set_option Elab.async false
set_option linter.all false
set_option maxRecDepth 100000
set_option maxHeartbeats 4000000
/-! Operations of several kinds at once; what is told of the written part. -/
namespace DL
open PySem PySem.Spec PyProof.Rows L2
variable [TabC]
/-! ### + of ints, texts, lists -/
def dAddA : D → D → (D → Prop) → Prop := fun x y k => match x, y with
  | .int i, .int j => k (.int (i + j))
  | .str i, .str j => i.length + j.length ≤ 1000000 ∧ k (.str (i ++ j))
  | .lst i, .lst j => i.length + j.length ≤ 1000000 ∧ k (.lst (i ++ j))
  | _, _ => False
section
variable {X : Cx} {b : Option Addr} {H0 : Hp} {a c e : Expr} {ga gb ge : GE} {pos : Pos}
/-! ### in -/
def dInA (neg : Bool) : D → D → (D → Prop) → Prop := fun x y k => match y with
  | .str z => (match x with | .str s => ∃ c, s = ⟨#[c]⟩ ∧ k (.bl (if neg then !decide (c ∈ z.cps.toList) else decide (c ∈ z.cps.toList))) | _ => False)
  | .lst ds => bif flatD x && ds.all flatD then k (.bl (if neg then !(ds.any fun z => eqF z x) else ds.any fun z => eqF z x)) else dInD neg x (.lst ds) k
  | .tup ds => (flatD x && ds.all flatD) = true ∧ k (.bl (if neg then !(ds.any fun z => eqF z x) else ds.any fun z => eqF z x))
  | _ => False
theorem dInA_mn (neg : Bool) : ∀ x y (k k' : D → Prop), (∀ d, k d → k' d) → dInA neg x y k → dInA neg x y k' := by
  intro x y k k' i q
  cases y with
  | str z => cases x <;> first | (obtain ⟨c, e, q⟩ := q; exact ⟨c, e, i _ q⟩) | exact q.elim
  | lst ds =>
    simp only [dInA] at q ⊢
    cases h : (flatD x && ds.all flatD) <;> rw [h] at q
    · exact dInD_mn neg _ _ _ _ i q
    · exact i _ q
  | tup ds => exact ⟨q.1, i _ q.2⟩
  | _ => exact q.elim
theorem op2_inA : Op2 X.K b (fun x y H Q => (rIn X.K false x y H Q ∨ rInD X.K x y H Q) ∨ ∃ (c : Nat) (z : Str), x = .str ⟨#[c]⟩ ∧ y = .str z ∧ Q (.bl (decide (c ∈ z.cps.toList))) H) (dInA false) := by
  refine ⟨dInA_mn false, fun O H dx dy x y Q F r1 r2 q => ?_⟩
  cases dy with
  | str z => cases dx <;> first | (obtain ⟨c, e, q⟩ := q; subst e; exact .inr ⟨c, _, r1.str, r2.str, q _ H (.refl H) rfl⟩) | exact q.elim
  | lst ds =>
    simp only [dInA] at q
    cases h : (flatD dx && ds.all flatD) <;> rw [h] at q
    · exact .inl (.inr (inD_ok r1 r2 q))
    · obtain ⟨h1, h2⟩ := Bool.and_eq_true_iff.mp h
      exact .inl (.inl ((op2_in (X := X) (b := b) false).ok O H _ (.lst ds) x y Q F r1 r2 ⟨h1, h2, q⟩))
  | tup ds =>
    obtain ⟨h1, h2⟩ := Bool.and_eq_true_iff.mp q.1
    exact .inl (.inl ((op2_in (X := X) (b := b) false).ok O H _ (.tup ds) x y Q F r1 r2 ⟨h1, h2, q.2⟩))
  | _ => exact q.elim
theorem db_inA {k : Nat} (hr : Room (k + 1) X.A) (A : DT b H0 X a ga) (B : DT b H0 X c gb) (hm : behindInMarks .In c = false := by rfl) : DB b H0 X (.Compare a [.In] [c] pos) (gB (g2 (dInA false) ga gb)) := db_cmp ((op_in_seq.or (op_inD (un65 hr))).or op_in_sign) op2_inA A B hm
/-! ### the written part -/
def fdOf (K : Fg) (a : Addr) : FuncData := match K.lookup a with
  | some ⟨_, _, .func fd, _⟩ => fd
  | _ => default
theorem funD_of {K : Fg} {x qual : Str} {params : Arguments} {body : List Stmt} {scope : Scope} {dvs : List V} {kws : List (Str × V)} {f : Addr} (h : ∃ fd, FunD K x qual params body scope dvs kws f fd) : FunD K x qual params body scope dvs kws f (fdOf K f) := by
  obtain ⟨fd, F⟩ := h
  have e : fdOf K f = fd := by
    obtain ⟨oc, od, dV, kV, doc, pm, an, cdv, ct, osl, _, lk, _⟩ := F.ex
    unfold fdOf
    rw [lk]
  rw [e]; exact F
def oexB (K : Fg) (b : EB) (C : Addr) : Bool := (match K.lookup C with
  | some ⟨.type "type", _, .cls cd, sl⟩ => (match cd.mro, sl.toList with
    | .ref C' :: bm, [_, _, _, _, some (.builtin n), _] => C' == C && (n == b.new && (!cd.hasDel && (cd.hasDict && PySem.W.excTail b.tail bm)))
    | _, _ => false)
  | _ => false) && (decide (PySem.W.findIn K (.ref C) "__setattr__" = some (some (.builtin "object.__setattr__"))) && (decide (PySem.W.subIn K (.ref C) (.type "BaseException") = some true) && (decide (PySem.W.typeIn K (.ref C) = some (.type "type")) && PySem.W.keepIn K (.ref C))))
theorem oexB_ok {K : Fg} {b : EB} {C : Addr} (h : oexB K b C = true) : OexE K b C := by
  unfold oexB at h
  obtain ⟨h1, h⟩ := Bool.and_eq_true_iff.mp h
  obtain ⟨h2, h⟩ := Bool.and_eq_true_iff.mp h
  obtain ⟨h3, h⟩ := Bool.and_eq_true_iff.mp h
  obtain ⟨h4, h5⟩ := Bool.and_eq_true_iff.mp h
  refine ⟨?_, of_decide_eq_true h2, of_decide_eq_true h3, of_decide_eq_true h4, h5⟩
  clear h2 h3 h4 h5
  split at h1
  · rename_i dd cd sl ho
    split at h1
    · rename_i C' bm k0 k1 k2 k3 n k5 hm hs
      simp only [Bool.and_eq_true, beq_iff_eq, Bool.not_eq_true'] at h1
      obtain ⟨e1, e2, e3, e4, e5⟩ := h1
      subst e1 e2
      obtain ⟨nm, bs, mro, ns, qn, hd, sn, sb, ab, col, del⟩ := cd
      simp only at hm e3 e4
      subst hm e3 e4
      obtain ⟨sl⟩ := sl
      simp only at hs
      subst hs
      exact ⟨nm, qn, ns, bs, bm, sn, sb, ab, col, dd, k0, k1, k2, k3, k5, ho, e5⟩
    · cases h1
  · cases h1
def baseB (K : Fg) (b : EB) (S : Addr) : Bool := decide (PySem.W.specialIn K (.ref S) "__getattribute__" = some (some (.builtin "type.__getattribute__"))) && (PySem.W.readsIn K S (.type "type") && (match PySem.W.findCls K (.ref S) (.type "type") "__init__" with | some (.val (.builtin n)) => n == b.init | _ => false))
theorem baseB_ok {K : Fg} {b : EB} {S : Addr} (h : baseB K b S = true) : BaseOk K b S := by
  obtain ⟨h1, h⟩ := Bool.and_eq_true_iff.mp h
  obtain ⟨h2, h3⟩ := Bool.and_eq_true_iff.mp h
  refine ⟨of_decide_eq_true h1, h2, ?_⟩
  split at h3
  · rename_i n e
    rw [e, beq_iff_eq.mp h3]
  · cases h3
def ownB (K : Fg) (c : Str) : Bool := decide (PySem.W.findIn K (.ref (He.ga K c)) "__class__" = some (some (.builtin "object.__class__"))) && (decide (PySem.W.specialIn K (.builtin "object.__class__") "__get__" = some (some (.builtin "getset_descriptor.__get__"))) && (decide (PySem.W.takesIn K (.builtin "object.__class__") = some true) && (decide (PySem.W.mroIn K (He.ga K c) (.type "object") = some true) && (He.Fa.cls c).ok K)))
theorem ownB_ok {K : Fg} {c : Str} (h : ownB K c = true) : OwnOk K c := by
  obtain ⟨h1, h⟩ := Bool.and_eq_true_iff.mp h
  obtain ⟨h2, h⟩ := Bool.and_eq_true_iff.mp h
  obtain ⟨h3, h⟩ := Bool.and_eq_true_iff.mp h
  obtain ⟨h4, h5⟩ := Bool.and_eq_true_iff.mp h
  exact ⟨He.cls_ok h5, of_decide_eq_true h1, of_decide_eq_true h2, of_decide_eq_true h3, of_decide_eq_true h4⟩
def tgs : List Tg := [.non, .bl, .int, .str, .tup, .lst, .dic]
theorem tgs_all (T : Tg) : T ∈ tgs := by cases T <;> simp [tgs]
def clsB (K : Fg) (cls : List Str) (sub : Str → Str → Bool) : Bool := cls.all fun c => ownB K c && ((cls.all fun C => decide (PySem.W.kitOne K (.ref (He.ga K c)) (.ref (He.ga K C)) = some (sub c C))) && ((tgs.all fun T => decide (PySem.W.kitOne K (.ref (He.ga K c)) (.type T.nm) = some false)) && tgs.all fun T => decide (PySem.W.kitOne K (.type T.nm) (.ref (He.ga K c)) = some false)))
theorem clsB_ok {K : Fg} {cls : List Str} {sub : Str → Str → Bool} (h : clsB K cls sub = true) : ClsOk K cls sub := by
  have key := List.all_eq_true.mp h
  refine ⟨fun c hc => ownB_ok (Bool.and_eq_true_iff.mp (key c hc)).1, fun c hc C hC => ?_, fun c hc T => ?_, fun T c hc => ?_⟩
  · exact of_decide_eq_true (List.all_eq_true.mp (Bool.and_eq_true_iff.mp (Bool.and_eq_true_iff.mp (key c hc)).2).1 C hC)
  · exact of_decide_eq_true (List.all_eq_true.mp (Bool.and_eq_true_iff.mp (Bool.and_eq_true_iff.mp (Bool.and_eq_true_iff.mp (key c hc)).2).2).1 T (tgs_all T))
  · exact of_decide_eq_true (List.all_eq_true.mp (Bool.and_eq_true_iff.mp (Bool.and_eq_true_iff.mp (Bool.and_eq_true_iff.mp (key c hc)).2).2).2 T (tgs_all T))
/-- an own error's class: its __init__ at the class's own -/
def errB (K : Fg) (b : EB) (c : Str) (flds : List Str) : Bool := oexB K b (He.ga K c) && ((cdS :: flds).all (fun f => decide (PySem.W.findIn K (.ref (He.ga K c)) f = some none)) && (decide (PySem.W.findIn K (.ref (He.ga K c)) "__init__" = some (some (.ref (He.ma K (He.ga K c) "__init__")))) && decide (PySem.W.typeIn K (.ref (He.ma K (He.ga K c) "__init__")) = some (.type "function"))))
theorem errB_ok {K : Fg} {b : EB} {c : Str} {flds : List Str} (h : errB K b c flds = true) : ErrK K b c (He.ma K (He.ga K c) "__init__") flds := by
  obtain ⟨h1, h⟩ := Bool.and_eq_true_iff.mp h
  obtain ⟨h2, h⟩ := Bool.and_eq_true_iff.mp h
  obtain ⟨h3, h4⟩ := Bool.and_eq_true_iff.mp h
  exact ⟨⟨oexB_ok h1, fun f hf => of_decide_eq_true (List.all_eq_true.mp h2 f hf)⟩, of_decide_eq_true h3, of_decide_eq_true h4⟩
theorem all_at {l : List Bool} (h : l.all id = true) (i : Nat) {x : Bool} (e : l[i]? = some x) : x = true := List.all_eq_true.mp h x (List.mem_of_getElem? e)
end
end DL
/-! ### the Hook, the statics' dict in it -/
/-! DH1 -/
set_option Elab.async false
set_option linter.all false
set_option maxRecDepth 100000
set_option maxHeartbeats 4000000
/-! operators that an own class defines -/
namespace DL
open PySem PySem.Spec PyProof.Rows L2
variable [TabC]
def gOwn1 (c : Str) (s : GS) (eo : XD → Prop) (ga : GE) : GE := fun σ k => ga σ fun d => match d with
  | .ins c' ns ds => c' = c ∧ s [.ins c' ns ds] k eo
  | _ => False
section
variable {X : Cx} {b : Option Addr} {H0 : Hp} {E : XK} {eo : XD → Prop} {s : GS} {k : Nat} {f : Addr} {fd : FuncData} {ps : List Str} {c : Str} {pos : Pos} {a e : Expr} {ga gb : GE}
/-- x op y, x of the class c, y of c too or an int -/
def gOwn2 (c : Str) (s : GS) (eo : XD → Prop) (ga gb : GE) : GE := fun σ k => ga σ fun x => gb σ fun y => match x, y with
  | .ins c' ns ds, .ins c2 ns2 ds2 => c' = c ∧ c2 = c ∧ s [.ins c' ns ds, .ins c2 ns2 ds2] k eo
  | .ins c' ns ds, .int i => c' = c ∧ s [.ins c' ns ds, .int i] k eo
  | _, _ => False
/-- x == y by the own __eq__ of x's class; y of that class too -/
def gOwnQ (c : Str) (s : GS) (eo : XD → Prop) (ga gb : GE) : GE := fun σ k => ga σ fun x => gb σ fun y => match x, y with
  | .ins c' ns ds, .ins c2 ns2 ds2 => c' = c ∧ c2 = c ∧ s [.ins c' ns ds, .ins c2 ns2 ds2] k eo
  | _, _ => False
end
end DL
/-! DH2 -/
set_option Elab.async false
set_option linter.all false
set_option maxRecDepth 100000
set_option maxHeartbeats 4000000
/-! != of own classes -/
namespace DL
open PySem PySem.Spec PyProof.Rows L2
end DL
/-! DH3 -/
set_option Elab.async false
set_option linter.all false
set_option maxRecDepth 100000
set_option maxHeartbeats 4000000
/-! a def called from within a builtin; != of own classes as data -/
namespace DL
open PySem PySem.Spec PyProof.Rows L2
variable [TabC]
section
variable {X : Cx} {b : Option Addr} {H0 : Hp} {E : XK} {eo : XD → Prop} {s : GS} {k : Nat} {f : Addr} {fd : FuncData} {ps : List Str} {c : Str} {pos : Pos} {a e : Expr} {ga gb : GE}
/-- x != y: not the own == -/
def gOwnN (c : Str) (s : GS) (eo : XD → Prop) (ga gb : GE) : GE := fun σ k => gOwnQ c s eo ga gb σ fun d => match d with | .bl r => k (.bl (!r)) | _ => False
end
end DL
/-! DH4 -/
set_option Elab.async false
set_option linter.all false
set_option maxRecDepth 100000
set_option maxHeartbeats 4000000
/-! str(x) by the own __str__ -/
namespace DL
open PySem PySem.Spec PyProof.Rows L2
variable [TabC]
section
variable {X : Cx} {b : Option Addr} {H0 : Hp} {E : XK} {eo : XD → Prop} {s : GS} {k : Nat} {f : Addr} {fd : FuncData} {ps : List Str} {c x : Str} {p pos : Pos} {e : Expr} {ga : GE}
def gOwnS (c : Str) (s : GS) (eo : XD → Prop) (ga : GE) : GE := fun σ k => gOwn1 c s eo ga σ fun d => match d with | .str r => k (.str r) | _ => False
end
end DL
/-! DH5 -/
set_option Elab.async false
set_option linter.all false
set_option maxRecDepth 100000
set_option maxHeartbeats 4000000
/-! f-strings -/
namespace DL
open PySem PySem.Spec PyProof.Rows L2
variable [TabC]
def gJs : List GE → Str → GE
  | [], acc, _, k => k (.str acc)
  | g :: gs, acc, σ, k => g σ fun d => match d with
    | .str y => (acc ++ y).length ≤ 1000000 ∧ gJs gs (acc ++ y) σ k
    | _ => False
section
variable {X : Cx} {b : Option Addr} {H0 : Hp} {pos : Pos}
def gFmt (g : GE) : GE := fun σ k => g σ fun d => match d with
  | .str y => y.length ≤ 1000000 ∧ k (.str y)
  | .int i => i.natAbs.log2 < 1920 ∧ k (.str (toString i))
  | _ => False
end
end DL
/-! DH6 -/
set_option Elab.async false
set_option linter.all false
set_option maxRecDepth 100000
set_option maxHeartbeats 4000000
/-! properties of own classes -/
namespace DL
open PySem PySem.Spec PyProof.Rows L2
end DL
/-! DH7 -/
set_option Elab.async false
set_option linter.all false
set_option maxRecDepth 100000
set_option maxHeartbeats 4000000
/-! int * own -/
namespace DL
open PySem PySem.W PySem.Calls PyProof.Rows
end DL
/-! DH8 -/
set_option Elab.async false
set_option linter.all false
set_option maxRecDepth 100000
set_option maxHeartbeats 4000000
namespace DL
open PySem PySem.W PySem.Calls PyProof.Rows
end DL
/-! DI1 -/
set_option Elab.async false
set_option linter.all false
set_option maxRecDepth 100000
set_option maxHeartbeats 4000000
/-! Calls, one rule for each callee: a promise over the values as they are written (positions, stars, keywords, defaults). -/
namespace DL
open PySem PySem.Spec PyProof.Rows L2
variable [TabC]
/-- the items at some places -/
def pick {α : Type} (ix : List Nat) (l : List α) : List α := ix.filterMap fun i => l[i]?
theorem pick_cons {α : Type} (i : Nat) (ix : List Nat) (l : List α) : pick (i :: ix) l = match l[i]? with | some x => x :: pick ix l | none => pick ix l := by
  unfold pick
  rw [List.filterMap_cons]
  cases l[i]? <;> rfl
theorem reps_none {K : Fg} {b : Option Addr} {H : Hp} {ds : List D} {vs : List V} (r : Reps K b H ds vs) {i : Nat} (h : ds[i]? = none) : vs[i]? = none := by
  rw [List.getElem?_eq_none_iff] at h ⊢
  rw [← r.length]; exact h
theorem Reps.pick {K : Fg} {b : Option Addr} {H : Hp} {ds : List D} {vs : List V} (r : Reps K b H ds vs) : ∀ ix : List Nat, Reps K b H (DL.pick ix ds) (DL.pick ix vs)
  | [] => Reps.nil
  | i :: ix => by
    rw [pick_cons, pick_cons]
    cases e : ds[i]? with
    | none => rw [reps_none r e]; exact Reps.pick r ix
    | some d =>
      obtain ⟨v, e2, rv⟩ := r.get e
      rw [e2]
      exact Reps.cons rv (Reps.pick r ix)
theorem vals_get : ∀ {vs : List V} {us : List Value} {i : Nat} {v : V}, Vals vs us → vs[i]? = some v → ∃ u, us[i]? = some u ∧ RelV v u
  | [], _, _, _, .nil, e => by simp at e
  | _ :: _, _, 0, v, .cons a r, e => by
    simp at e; subst e
    exact ⟨_, rfl, a⟩
  | _ :: _, _, i + 1, v, .cons a r, e => by
    obtain ⟨u, e1, e2⟩ := vals_get r (i := i) (by simpa using e)
    exact ⟨u, by simpa using e1, e2⟩
theorem vals_pick {vs : List V} {us : List Value} (r : Vals vs us) : ∀ ix : List Nat, Vals (DL.pick ix vs) (DL.pick ix us)
  | [] => .nil
  | i :: ix => by
    rw [pick_cons, pick_cons]
    cases e : vs[i]? with
    | none =>
      have : us[i]? = none := by
        rw [List.getElem?_eq_none_iff] at e ⊢
        rw [← r.length]; exact e
      rw [this]; exact vals_pick r ix
    | some d =>
      obtain ⟨v, e2, rv⟩ := vals_get r e
      rw [e2]
      exact .cons rv (vals_pick r ix)
/-- f, called with values and the keywords ks: its promise over all values as they stand in the call -/
def FnC (P : Program) (w : World) (K : Fg) (mg : Str → Option Value) (base : Heap) (k : Nat) (f : Addr) (ks : List Str) (sp : Sp) : Prop :=
  ∀ (A : Around) (outer : List Env) (s : Shared) (H : Hp) (us kus : List Value) (vs : List V) (Q : VK) (E : XK), Room k A → Env0 P w K mg base A outer s H → kus.length = ks.length → Vals vs (us ++ kus) → sp vs H Q E →
    codeAny (model P w) A (.call (.ref f) ⟨us, ks.zip kus⟩) (CR (L2.CX P w) outer P w H s Q E) s
section
variable {P : Program} {w : World} {K : Fg} {mg : Str → Option Value} {base : Heap} {k j : Nat} {f : Addr} {fd : FuncData} {ps ks : List Str} {sp sp' : Sp} {s : GS} {dd : List D} {dvs : List V} {dus : List Value}
theorem FnC.mono (F : FnC P w K mg base j f ks sp) (h : j ≤ k) : FnC P w K mg base k f ks sp := fun A outer s H us kus vs Q E hr => F A outer s H us kus vs Q E (hr.mono h)
theorem FnC.imp (F : FnC P w K mg base k f ks sp) (h : ∀ vs H Q E, sp' vs H Q E → sp vs H Q E) : FnC P w K mg base k f ks sp' := fun A outer s H us kus vs Q E hr e0 hk r hs => F A outer s H us kus vs Q E hr e0 hk r (h _ _ _ _ hs)
theorem FnOk.c (F : FnOk P w K mg base (L2.CX P w) k f fd ps sp) (n : Nat) (ks : List Str) (ix : List Nat) (hd : Vals dvs dus)
    (hb : ∀ (s : Shared) (us kus : List Value), K.In s.heap → us.length = n → kus.length = ks.length → BindsTo s fd ⟨us, ks.zip kus⟩ (ps.zip (pick ix (us ++ kus ++ dus)))) :
    FnC P w K mg base k f ks (fun vs H Q E => vs.length = n + ks.length ∧ sp (pick ix (vs ++ dvs)) H Q E) := fun A outer s H us kus vs Q E hr e0 hk r ⟨hl, h⟩ => by
  refine F.run A outer s H ⟨us, ks.zip kus⟩ _ _ Q E hr e0 (hb s us kus (e0.mod.kin.keeps fun b o e => (e0.bs b o e).1) ?_ hk) (vals_pick (r.append hd) ix) h
  have := r.length
  rw [List.length_append] at this
  omega
/-- the shape of a call: n values, put in their places by ix, behind them the defaults -/
def shp (n : Nat) (ix : List Nat) (dd : List D) (s : GS) : GS := fun ds k e => ds.length = n ∧ s (pick ix (ds ++ dd)) k e
/-- an __init__ -/
def shpI (n : Nat) (ix : List Nat) (dd : List D) (s : GSI) : GSI := fun c ns fs ds k e => ds.length = n ∧ s c ns fs (pick ix (ds ++ dd)) k e
theorem pick_self {α : Type} (ix : List Nat) (x : α) (l : List α) : pick (0 :: ix.map (· + 1)) (x :: l) = x :: pick ix l := by
  rw [pick_cons]
  show x :: pick (ix.map (· + 1)) (x :: l) = _
  congr 1
  unfold pick
  rw [List.filterMap_map]
  rfl
end
/-! ### the values of a call -/
/-- two lists of arguments, strong: positions and keywords in the order in which they are written -/
structure DCA (b : Option Addr) (H0 : Hp) (X : Cx) (pos : Pos) (args : List Expr) (kws : List Keyword) (ks : List Str) (g : GA) : Prop where
  run : ∀ (pins : List (Addr × Obj)) (s : Shared) (σ : L2.St) (H : Hp) (f : Value) (first : List Value) (Q : Value → Shared → Prop), Inv X pins σ H s → PySem.W.keepIn X.K f = true →
    (∃ σd O, Rst X.K b H0 σd σ H O ∧ g σd fun ds => ∀ us kus vs H' s', Inv X pins σ H' s' → Ext b H H' → kus.length = ks.length → Vals vs (us ++ kus) → Reps X.K b (hide O H') ds vs → wpAny (model X.prog X.w) X.A (call f (first ++ us) (ks.zip kus)) Q X.xe s') →
    wpAny (model X.prog X.w) X.A (callWith pos f first (backTo pos (starEach args X.env)) (backToKw pos (keywordEach kws X.env))) Q X.xe s
  mn : Mn g
def gStar (ge : GE) (g : GA) : GA := fun σ k => ge σ fun d => match d with
  | .lst xs => g σ fun ds => k (xs ++ ds)
  | .tup xs => g σ fun ds => k (xs ++ ds)
  | _ => False
def gApp (g g' : GA) : GA := fun σ k => g σ fun ds => g' σ fun es => k (ds ++ es)
section
variable {X : Cx} {b : Option Addr} {H0 : Hp} {e o : Expr} {es : List Expr} {kws : List Keyword} {g ga gk : GA} {ge go : GE} {pos p sp_ apos : Pos} {ks : List Str}
theorem dca_nil : DCA b H0 X pos [] [] [] gNil := ⟨fun pins s σ H f first Q I hk ⟨σd, O, R, q⟩ => PySem.W.callWith_K0 I.kIn hk (by
  have := q [] [] [] H s I (.refl H) rfl .nil Reps.nil
  simpa using this), fun σ k k' i q => i _ q⟩
theorem dca_pos (A : DAr b H0 X (e :: es) g) (he : starEach (e :: es) X.env = (false, eval e X.env) :: starEach es X.env := by rfl) (hpl : (backTo pos (starEach es X.env)).any (·.1) = false := by rfl) : DCA b H0 X pos (e :: es) [] [] g :=
  ⟨fun pins s σ H f first Q I hk ⟨σd, O, R, q⟩ => by
    refine PySem.W.callWith_K (h₀ := X.base) I.ok.mod.kin hk (thn (A.pa.run pos pins s σ H (fun vs H' => ∃ ds, Ext b H H' ∧ Reps X.K b (hide O H') ds vs ∧ ∀ us kus vs H' s', Inv X pins σ H' s' → Ext b H H' → kus.length = 0 → Vals vs (us ++ kus) → Reps X.K b (hide O H') ds vs → wpAny (model X.prog X.w) X.A (call f (first ++ us) []) Q X.xe s') I
      ⟨σd, O, R, A.mn _ _ _ (fun ds z vs H' x1 r => ⟨ds, x1, r, z⟩) q⟩) fun us s1 ⟨vs, H1, I1, r, ds, x1, rp, q1⟩ => ⟨I1.kIn, ?_⟩) he hpl
    exact q1 us [] vs H1 s1 I1 x1 rfl (by rw [List.append_nil]; exact r) rp, A.mn⟩
/-- *x alone -/
def gStar1 (ge : GE) : GA := fun σ k => ge σ fun d => match d with
  | .lst xs => k xs
  | .tup xs => k xs
  | _ => False
/-- keywords alone -/
theorem dca_kw0 (B : DK b H0 X kws gk) (hall : (backToKw pos (keywordEach kws X.env)).all (·.1.isSome) = true := by rfl) (hks : (backToKw pos (keywordEach kws X.env)).filterMap (·.1) = ks := by rfl) (hl : kws.length = ks.length := by rfl)
    (hpl : ((backTo pos (starEach [] X.env)).any (·.1) || (backToKw pos (keywordEach kws X.env)).any (·.1.isNone)) = false := by rfl) (hn : ∀ σ k, gk σ k → gk σ fun ds => ds.length = ks.length ∧ k ds) : DCA b H0 X pos [] kws ks gk :=
  ⟨fun pins s σ H f first Q I hk ⟨σd, O, R, q⟩ => by
    refine PySem.W.callWith_KW0 (h₀ := X.base) I.ok.mod.kin hk hall (thn (B.pk.run pos pins s σ H (fun vs H' => ∃ ds, ds.length = ks.length ∧ Ext b H H' ∧ Reps X.K b (hide O H') ds vs ∧ ∀ us kus vs H' s', Inv X pins σ H' s' → Ext b H H' → kus.length = ks.length → Vals vs (us ++ kus) → Reps X.K b (hide O H') ds vs → wpAny (model X.prog X.w) X.A (call f (first ++ us) (ks.zip kus)) Q X.xe s') I
      ⟨σd, O, R, B.mn _ _ _ (fun ds z vs H' x1 r => ⟨ds, z.1, x1, r, z.2⟩) (hn _ _ q)⟩) fun us s1 ⟨vs, H1, I1, r, ds, hl, x1, rp, q1⟩ => ⟨I1.kIn, ?_⟩) hpl
    rw [hks]
    exact q1 [] us vs H1 s1 I1 x1 (by rw [← r.length, ← rp.length]; exact hl) r rp, B.mn⟩
/-- how many keywords there are -/
theorem kn_nil : ∀ σ (k : List D → Prop), gNil σ k → gNil σ fun ds => ds.length = 0 ∧ k ds := fun σ k q => ⟨rfl, q⟩
theorem kn_cons {n : Nat} (A : Mn ge) (B : Mn gk) (h : ∀ σ k, gk σ k → gk σ fun ds => ds.length = n ∧ k ds) : ∀ σ k, gCons ge gk σ k → gCons ge gk σ fun ds => ds.length = n + 1 ∧ k ds := fun σ k q => A _ _ _ (fun d z => B _ _ _ (fun ds w => ⟨by rw [List.length_cons, w.1], w.2⟩) (h _ _ z)) q
/-! ### the callees -/
variable {E : XK} {eo : XD → Prop} {s : GS} {k : Nat} {f C : Addr} {x m c : Str} {args : List Expr}
theorem run_fnC {pins : List (Addr × Obj)} {σ : L2.St} {σd : StD} {H : Hp} {s0 : Shared} {O : List Addr} {us kus : List Value} {vs : List V} {ds : List D} {Q : VK} (F : FnC X.prog X.w X.K X.mg X.base k f ks (lift X.K s)) (ms : MnS s) (hr : Room k X.A) (Z : Cz X b H0 E eo)
    (I : Inv X pins σ H s0) (hk : kus.length = ks.length) (r2 : Vals vs (us ++ kus)) (R : Rst X.K b H0 σd σ H O) (rp : Reps X.K b (hide O H) ds vs) (h : s ds (fun d => ∀ v H', Ext b H H' → Rep X.K b (hide O H') d v → Q v H') eo) :
    wpAny (model X.prog X.w) X.A (call (.ref f) us (ks.zip kus)) (EP X pins σ Q) X.xe s0 := by
  have hO : ∀ a ∈ O, Hid O H a := fun a m => (R.nb a m).2.2
  have I1 := inv_hide I hO
  have sp : lift X.K s vs (hide O H) (fun v H2 => (∀ a ∈ O, H2 a = none) → Q v (back O H H2)) E := by
    refine ⟨b, ds, R.bg, rp, ms _ _ _ _ _ (fun d hd v H2 x r0 fr => ?_) (fun x hx cls d H2 x2 xa => ?_) h⟩
    · refine hd v _ (back_ext (fun a m => ⟨(R.nb a m).1, (R.nb a m).2.2⟩) fr x) ?_
      rw [back_hide fr]
      exact r0
    · exact Z.ex x cls d H2 hx (R.le.trans x2) xa
  refine wpAny_call (codeAny_mono (F X.A X.stack s0 (hide O H) us kus vs _ E hr I1.env0 hk r2 sp) fun r s' hq => ?_)
  cases r with
  | error e => exact Z.pass pins σ (hide O H) s0 e s' I1 hq
  | ok fl =>
    cases fl with
    | ret u =>
      obtain ⟨v, H2, os, bare, un, ok, rv, q⟩ := hq
      obtain ⟨fr, I2⟩ := inv_back I hO os bare un ok
      exact ⟨v, _, I2, rv, q fr⟩
    | next => exact False.elim hq
    | brk => exact False.elim hq
    | cont => exact False.elim hq
def gCa (s : GS) (eo : XD → Prop) (ga : GA) : GE := fun σ k => ga σ fun ds => s ds k eo
theorem gCa_mn (ms : MnS s) (A : Mn ga) : Mn (gCa s eo ga) := fun σ k k' i q => A _ _ _ (fun ds z => ms _ _ _ _ _ i (fun _ w => w) z) q
/-- x(..), x a def of the module -/
theorem de_ca (F : FnC X.prog X.w X.K X.mg X.base k f ks (lift X.K s)) (ms : MnS s) (hr : Room k X.A) (hm : X.mg x = some (.ref f)) (hk : PySem.W.keepIn X.K (.ref f) = true) (Z : Cz X b H0 E eo) (A : DCA b H0 X pos args kws ks ga)
    (hg : Gl X x := by rfl) (hdb : (x == ("__debug__" : Str)) = false := by decide) : DE b H0 X (.Call (.Name x p) args kws pos) (gCa s eo ga) := by
  refine ⟨⟨fun pins s0 σ H Q I ⟨σd, O, R, q⟩ => ?_⟩, gCa_mn ms A.mn⟩
  refine wpAny_Call_Name_kw (ld_glob I hg hm ?_ hdb)
  refine A.run pins s0 σ H (.ref f) [] _ I hk ⟨σd, O, R, A.mn _ _ _ (fun ds z us kus vs H' s' I' x1 hl r rp => ?_) q⟩
  exact run_fnC F ms hr Z I' hl r (R.mono x1) rp (ms _ _ _ _ _ (fun d w v H2 x2 r2 => w v H2 (x1.trans x2) r2) (fun _ w => w) z)
/-- o.m(..), o an instance of the class c -/
def gMc (c m : Str) (s : GS) (eo : XD → Prop) (go : GE) (ga : GA) : GE := fun σ k => go σ fun d => match d with
  | .ins c' ns ds => c' = c ∧ m ∉ ns ∧ ga σ fun es => s (.ins c' ns ds :: es) k eo
  | _ => False
def gMk (c : Str) (s : GSI) (eo : XD → Prop) (ga : GA) : GE := fun σ k => ga σ fun ds => s c [] [] ds (fun ns fs => k (.ins c ns fs)) eo
end
/-! ### defs with a star -/
end DL
/-! DI2 -/
set_option Elab.async false
set_option linter.all false
set_option maxRecDepth 100000
set_option maxHeartbeats 4000000
/-! enumerate and zip of lists and tuples, mixed. -/
namespace PySem
theorem meets_enumerate_new1 {v : Value} {o : Obj} {H : Heap → Prop} (B : Begins v o H) :
    Meets (Builtin.«enumerate.__new__» ⟨[.type "enumerate", v], []⟩) (fun _ R s => H s.heap ∧
      R (.ok (.ret (.ref (s.heap.push o).objs.size))) { s with heap := (s.heap.push o).push { cls := .type "enumerate", data := .fields #[.none, .bool false, .ref s.heap.objs.size, rawInt 0, .none, .none] } }) :=
  .of_wp fun prog w A R s h => by
    obtain ⟨hp, g, d, tk, os⟩ := s; obtain ⟨h1, h⟩ := h
    have hsub := sub_enumerate
    have q1 : ∀ {A' : Around} {E : Value → Shared → Prop} {Q : Value → Shared → Prop}, Q (.ref hp.objs.size) ⟨hp.push o, g, d, tk, os⟩ → wpAny (model prog w) A' (pyIter v) Q E ⟨hp, g, d, tk, os⟩ :=
      fun q => B.iter prog w _ _ ⟨hp, g, d, tk, os⟩ _ h1 q
    wp_walk using q1
    refine wpAny_stack_any fun st => wpAny_pure ?_
    split
    · rename_i c _ _ _ _ _
      cases (c == Value.type "enumerate")
      · wp_walk using q1
        exact ⟨_, rfl, h⟩
      · wp_walk using q1
        exact ⟨_, rfl, h⟩
    · wp_walk using q1
      exact ⟨_, rfl, h⟩
section
variable {prog : Program} {w : World} {A : Around} {E : Value → Shared → Prop} {s : Shared}
theorem enum_begins1 {v : Value} {o : Obj} {H : Heap → Prop} {Q : Value → Shared → Prop} (B : Begins v o H) (h1 : H s.heap)
    (h : ∀ h', IsEnum h' (s.heap.objs.size + 1) s.heap.objs.size 0 .none → h'.get? s.heap.objs.size = some o → h'.objs.size = s.heap.objs.size + 2 →
      (∀ b o, s.heap.get? b = some o → h'.get? b = some o) → Q (.ref (s.heap.objs.size + 1)) { s with heap := h' }) :
    wpAny (model prog w) A (call (.type "enumerate") [v]) Q E s := by
  refine callType_new F.called_enumerate (by decide) (F.typeCall_enumerate_1 _) (F.newCall_enumerate_1 _) (fun obj => F.args_object_init_2 obj _) F.entry_enumerate_new
    (meets_enumerate_new1 B) ⟨h1, ?_⟩
  have hz : (s.heap.push o).objs.size = s.heap.objs.size + 1 := Heap.size_push ..
  show _ ∧ _
  rw [hz]
  have he : IsEnum ((s.heap.push o).push { cls := .type "enumerate", data := .fields #[.none, .bool false, .ref s.heap.objs.size, rawInt 0, .none, .none] }) (s.heap.objs.size + 1) s.heap.objs.size 0 .none := by
    have := Heap.get?_push_size (s.heap.push o) (o := { cls := .type "enumerate", data := .fields #[.none, .bool false, .ref s.heap.objs.size, rawInt 0, .none, .none] }) rfl
    rw [hz] at this; exact this
  refine ⟨⟨_, he, rfl⟩, h _ he (Heap.get?_push_of_some _ (Heap.get?_push_size _ B.free)) (by rw [Heap.size_push, hz]) fun b o x => Heap.get?_push_of_some _ (Heap.get?_push_of_some _ x)⟩
end
end PySem
namespace DL
open PySem PySem.Spec PyProof.Rows L2
variable [TabC]
/-- a list (false) or a tuple (true) -/
def SqB (t : Bool) (K : Fg) (H : Hp) (a : Addr) (xs : List V) : Prop := match t with | false => SqL K H a xs | true => SqT K H a xs
def SeqO (t : Bool) (h : Heap) (a : Addr) (its : Array Value) : Prop := match t with | false => h.IsList a its | true => h.IsTuple a its
def ItO (t : Bool) (h : Heap) (it a : Addr) (i : Nat) : Prop := match t with | false => h.IsListIter it a i | true => h.IsTupleIter it a i
def itObj (t : Bool) (a : Addr) : Obj := match t with | false => { cls := .type "list_iterator", data := .fields #[.ref a, .int 0 0] } | true => { cls := .type "tuple_iterator", data := .fields #[.ref a, .int 0 0] }
theorem begins_b (t : Bool) (a : Addr) (its : Array Value) : Begins (.ref a) (itObj t a) fun h => SeqO t h a its := by
  cases t
  · exact begins_list a its
  · exact begins_tuple a its
theorem draws_b {prog : Program} {w : World} {A : Around} (t : Bool) (hh : A.handled = none) (it a : Addr) (hne : a ≠ it) (items : Array Value) :
    Draws prog w A it [it, a] items.size (fun i v => items[i]? = some v) (fun i h => ItO t h it a i ∧ SeqO t h a items) := by
  cases t
  · exact Draws.list hh it a hne items
  · exact Draws.tuple hh it a hne items
theorem itO_new {t : Bool} {h : Heap} {it a : Addr} (e : h.get? it = some (itObj t a)) : ItO t h it a 0 := by
  cases t <;> exact ⟨_, e, rfl, rfl⟩
theorem itO_at {t : Bool} {h h' : Heap} {it a : Addr} {i : Nat} (x : ItO t h it a i) (k : ∀ o, h.get? it = some o → h'.get? it = some o) : ItO t h' it a i := by
  cases t <;> (obtain ⟨o, e, r⟩ := x; exact ⟨o, k _ e, r⟩)
theorem itO_obj {t : Bool} {h : Heap} {it a : Addr} {i : Nat} (x : ItO t h it a i) : ∃ o, h.get? it = some o ∧ ∀ v, o.data ≠ .cell v := by
  cases t <;> (obtain ⟨o, e, _, d⟩ := x; exact ⟨o, e, fun v q => by rw [d] at q; cases q⟩)
theorem seqO_lt {t : Bool} {h : Heap} {a : Addr} {its : Array Value} (x : SeqO t h a its) : a < h.objs.size := by
  cases t <;> (obtain ⟨o, e, _⟩ := x; exact Heap.lt_size e)
section
variable {X : Cx} {pins : List (Addr × Obj)} {σ : L2.St} {H : Hp} {s : Shared}
theorem Inv.seqB {t : Bool} {a : Addr} {xs : List V} (I : Inv X pins σ H s) (h : SqB t X.K H a xs) : ∃ its : List Value, Vals xs its ∧ SeqO t s.heap a its.toArray := by
  cases t
  · obtain ⟨its, r, p, _⟩ := I.list h
    exact ⟨its, r, p.isList⟩
  · obtain ⟨its, r, p, _⟩ := I.tuple h
    exact ⟨its, r, p⟩
theorem Inv.injB {t : Bool} {a : Addr} {xs ys : List V} (I : Inv X pins σ H s) (h : SqB t X.K H a xs) (g : SqB t X.K H a ys) : xs = ys := by
  cases t
  · exact I.list_inj h g
  · exact I.tuple_inj h g
end
/-- what an iterator over two yields -/
def ItzB (t u : Bool) (K : Fg) (a b : Addr) : It :=
  ⟨fun i H => ∃ (xs ys : List V) (x y : V), SqB t K H a xs ∧ SqB u K H b ys ∧ xs[i]? = some x ∧ ys[i]? = some y,
    fun i H v H' => ∃ T x y, v = .ref T ∧ H T = none ∧ H' = upd H T (.tup [x, y]) ∧ (∀ xs, SqB t K H a xs → xs[i]? = some x) ∧ ∀ ys, SqB u K H b ys → ys[i]? = some y,
    fun i H => ∃ xs ys : List V, SqB t K H a xs ∧ SqB u K H b ys ∧ i = min xs.length ys.length⟩
theorem turn_zipB {P : Program} {w : World} {K : Fg} {elts : List Expr} {kk : Nat} {tpos : Pos} (t u : Bool) {a b z TI TO i1 i2 : Addr} (S : ZipSep2 z TI TO i1 i2 [i1, a] [i2, b]) (n1 : a ≠ i1) (n2 : b ≠ i2) :
    Turn P w K (.Tuple elts kk tpos) (ItzB t u K a b) [z, TI, TO, i1, i2] z (fun i h => IsZip h z TI TO .none ∧ IsTupOf2 h TI (.ref i1) (.ref i2) ∧ (∃ x y, IsTupOf2 h TO x y) ∧ ItO t h i1 a i ∧ ItO u h i2 b i) where
  mem := by simp
  obj := fun i h st c hc => by
    obtain ⟨hz, hTI, ⟨x, y, hTO⟩, h1, h2⟩ := st
    have e' : c = z ∨ c = TI ∨ c = TO ∨ c = i1 ∨ c = i2 := by simpa using hc
    rcases e' with q | q | q | q | q
    · rw [q]; exact ⟨_, hz, fun v q => nomatch q⟩
    · rw [q]; exact ⟨_, hTI, fun v q => nomatch q⟩
    · rw [q]; exact ⟨_, hTO, fun v q => nomatch q⟩
    · rw [q]; exact itO_obj h1
    · rw [q]; exact itO_obj h2
  keep := fun i h h' st k => by
    obtain ⟨hz, hTI, ⟨x, y, hTO⟩, h1, h2⟩ := st
    exact ⟨k z (by simp) _ hz, k TI (by simp) _ hTI, ⟨x, y, k TO (by simp) _ hTO⟩, itO_at h1 fun o q => k i1 (by simp) o q, itO_at h2 fun o q => k i2 (by simp) o q⟩
  item := by
    intro X hP hw hK hc i pins s σ H E I hf st hg
    subst hP hw hK
    obtain ⟨hz, hTI, hTO, h1, h2⟩ := st
    obtain ⟨xs, ys, x, y, hqx, hqy, hx, hy⟩ := hg
    obtain ⟨its, rv, p⟩ := Inv.seqB I hqx
    obtain ⟨its2, rv2, p2⟩ := Inv.seqB I hqy
    have hin : (X.A.in1).handled = none := I.ok.hd hc
    have W := WalksT.zipD2 (A := X.A) S (draws_b (prog := X.prog) (w := X.w) t hin i1 a n1 its.toArray) (draws_b (prog := X.prog) (w := X.w) u hin i2 b n2 its2.toArray)
    have l1 := rv.length
    have l2 := rv2.length
    have hi : i < min its.toArray.size its2.toArray.size := by
      have g1 := (List.getElem?_eq_some_iff.mp hx).1
      have g2 := (List.getElem?_eq_some_iff.mp hy).1
      simp only [List.size_toArray]; omega
    refine W.item i s _ E hi ⟨hz, hTI, hTO, ⟨h1, p⟩, ⟨h2, p2⟩⟩ fun T vals h' tk hv hT hTup mid hk => ⟨_, rfl, W.go elts kk tpos i T _ _ E mid fun h'' st2 hk2 => ?_⟩
    obtain ⟨v1, v2, e1, e2, rfl⟩ := hv
    have hap := W.apart i T h' mid
    have k2 : ∀ c o, c ∉ [z, TO, i1, i2] → s.heap.get? c = some o → h''.get? c = some o := fun c o hc q => hk2 c o hc (hk c o hc q)
    have hT2 : h''.IsTuple T #[v1, v2] := by
      obtain ⟨o, q, r⟩ := hTup
      exact ⟨o, hk2 T o hap q, r⟩
    obtain ⟨u1, hu1, ru1⟩ := vals_get rv hx
    obtain ⟨u2, hu2, ru2⟩ := vals_get rv2 hy
    have f1 : v1 = u1 := by
      have : its[i]? = some v1 := by simpa using e1
      rw [hu1] at this; exact (Option.some.inj this).symm
    have f2 : v2 = u2 := by
      have : its2[i]? = some v2 := by simpa using e2
      rw [hu2] at this; exact (Option.some.inj this).symm
    subst f1 f2
    have new : ObjOk X.prog X.w (upd H T (.tup [x, y])) h'' T (.tup [x, y]) := ⟨by show 2 ≤ sizeLine; decide, [v1, v2], .cons ru1 (.cons ru2 .nil), hT2⟩
    have I1 : Inv X pins σ (upd H T (.tup [x, y])) { s with heap := h'', toks := tk } :=
      I.turnedNew (t' := tk) (ch := [z, TI, TO, i1, i2]) (fun c o hb q => k2 c o (fun m => hb (by
        have e' : c = z ∨ c = TO ∨ c = i1 ∨ c = i2 := by simpa using m
        rcases e' with r | r | r | r <;> simp [r])) q) hf hT new
    obtain ⟨hz', hTI', hTO', ⟨g1, _⟩, ⟨g2, _⟩⟩ := st2
    refine ⟨.ref T, _, I1, rfl, ⟨_, x, y, rfl, I.hok.fresh hT, rfl, fun l hl => by rw [Inv.injB I hl hqx]; exact hx, fun l hl => by rw [Inv.injB I hl hqy]; exact hy⟩, ⟨hz', hTI', hTO', g1, g2⟩, fun c hcm => ?_⟩
    have hlt : c < s.heap.objs.size := by
      have e' : c = z ∨ c = TI ∨ c = TO ∨ c = i1 ∨ c = i2 := by simpa using hcm
      obtain ⟨x0, y0, hTO⟩ := hTO
      rcases e' with q | q | q | q | q
      · rw [q]; exact Heap.lt_size hz
      · rw [q]; exact Heap.lt_size hTI
      · rw [q]; exact Heap.lt_size hTO
      · rw [q]; obtain ⟨_, e1, _⟩ := itO_obj h1; exact Heap.lt_size e1
      · rw [q]; obtain ⟨_, e2, _⟩ := itO_obj h2; exact Heap.lt_size e2
    rw [upd_ne (fun q => by rw [q] at hlt; exact Nat.lt_irrefl _ (Nat.lt_of_lt_of_le hlt hT))]
    exact (hf c hcm).1
  done := by
    intro X hP hw hK hc i pins s σ H E I hf st hg
    subst hP hw hK
    obtain ⟨hz, hTI, hTO, h1, h2⟩ := st
    obtain ⟨xs, ys, hqx, hqy, hend⟩ := hg
    obtain ⟨its, rv, p⟩ := Inv.seqB I hqx
    obtain ⟨its2, rv2, p2⟩ := Inv.seqB I hqy
    have hin : (X.A.in1).handled = none := I.ok.hd hc
    have W := WalksT.zipD2 (A := X.A) S (draws_b (prog := X.prog) (w := X.w) t hin i1 a n1 its.toArray) (draws_b (prog := X.prog) (w := X.w) u hin i2 b n2 its2.toArray)
    have l1 := rv.length
    have l2 := rv2.length
    have ei : i = min its.toArray.size its2.toArray.size := by simp only [List.size_toArray]; omega
    rw [ei] at h1 h2
    refine W.done s _ E ⟨hz, hTI, hTO, ⟨h1, p⟩, ⟨h2, p2⟩⟩ fun h' tk hk => ⟨rfl, I.turnedL (t' := tk) (ch := [z, TI, TO, i1, i2]) (fun c o hb q => hk c o (fun m => hb (by
        have e' : c = z ∨ c = TO ∨ c = i1 ∨ c = i2 := by simpa using m
        rcases e' with r | r | r | r <;> simp [r])) q) hf⟩
  self := fun A i s Q E st h => wpAny_pyIter_zip st.1 h
/-- zip(x, y) -/
def iZipB (K : Fg) (ta : TA) : TI := fun σ H R => ta σ H fun vs H1 => ∃ (t u : Bool) (a b : Addr) (xs ys : List V), vs = [.ref a, .ref b] ∧ SqB t K H1 a xs ∧ SqB u K H1 b ys ∧ R (ItzB t u K a b) H1
theorem pi_zipB {X : Cx} {e e2 : Expr} {ta : TA} {p pos tpos : Pos} {elts : List Expr} {kk : Nat} (hg : Gl X "zip") (hm : X.mg "zip" = none) (ha : PA X [e, e2] ta)
    (hs : starEach [e, e2] X.env = (false, eval e X.env) :: starEach [e2] X.env := by rfl) (hpl : (backTo pos (starEach [e2] X.env)).any (·.1) = false := by rfl) :
    PI X (.Tuple elts kk tpos) (.Call (.Name "zip" p) [e, e2] [] pos) (iZipB X.K ta) := by
  refine ⟨fun pins s σ H R I h => ?_⟩
  refine Call_ (ld_blt I hg hm PyProof.Rows.boot_zip (PyProof.Rows.callWith_type1 (thn (ha.run pos pins s σ H _ I h) fun us s1 ⟨vs, H1, I1, r1, q1⟩ => ?_) hs hpl))
  obtain ⟨t, u, a, b, xs, ys, ex, hqx, hqy, q⟩ := q1
  subst ex
  cases r1 with
  | cons r rr =>
    cases rr with
    | cons r' rr =>
      cases rr
      cases r
      cases r'
      have fresh5 : ∀ c, c ∈ [s1.heap.objs.size + 4, s1.heap.objs.size + 2, s1.heap.objs.size + 3, s1.heap.objs.size, s1.heap.objs.size + 1] → FpOk X pins H1 c := fun c hcm => by
        have e' : c = s1.heap.objs.size + 4 ∨ c = s1.heap.objs.size + 2 ∨ c = s1.heap.objs.size + 3 ∨ c = s1.heap.objs.size ∨ c = s1.heap.objs.size + 1 := by simpa using hcm
        have hle : s1.heap.objs.size ≤ c := by
          rcases e' with z | z | z | z | z
          · rw [z]; exact Nat.le_add_right _ _
          · rw [z]; exact Nat.le_add_right _ _
          · rw [z]; exact Nat.le_add_right _ _
          · rw [z]; exact Nat.le_refl _
          · rw [z]; exact Nat.le_add_right _ _
        exact I1.fpOk hle (I1.hok.fresh hle)
      obtain ⟨its, rv, p1⟩ := Inv.seqB I1 hqx
      obtain ⟨its2, rv2, p2⟩ := Inv.seqB I1 hqy
      have q1 := seqO_lt p1
      have q2 := seqO_lt p2
      refine zip_begins2 (begins_b t a its.toArray) (begins_b u b its2.toArray) p1 p2 fun h' hz hTI hTO h1 h2 hsz hk => wpAny_pyIter_zip hz ?_
      have I2 : Inv X pins σ H1 { s1 with heap := h' } := I1.kept (t' := s1.toks) hk
      exact ⟨s1.heap.objs.size + 4, [s1.heap.objs.size + 4, s1.heap.objs.size + 2, s1.heap.objs.size + 3, s1.heap.objs.size, s1.heap.objs.size + 1], _, _, H1, rfl, I2,
        turn_zipB t u (zip_sep2 (N := s1.heap.objs.size) (fp1 := [a]) (fp2 := [b]) (by simpa using q1) (by simpa using q2)) (Nat.ne_of_lt q1) (Nat.ne_of_lt (Nat.lt_succ_of_lt q2)), ⟨hz, hTI, ⟨_, _, hTO⟩, itO_new h1, itO_new h2⟩, fresh5, q⟩
/-- enumerate(x) -/
def IteB (t : Bool) (K : Fg) (a : Addr) : It :=
  ⟨fun i H => ∃ (xs : List V) (x : V), SqB t K H a xs ∧ xs[i]? = some x, fun i H v H' => ∃ T x, v = .ref T ∧ H T = none ∧ H' = upd H T (.tup [.int (i : Nat), x]) ∧ ∀ xs, SqB t K H a xs → xs[i]? = some x, fun i H => ∃ xs : List V, SqB t K H a xs ∧ i = xs.length⟩
theorem turn_enumB {P : Program} {w : World} {K : Fg} {elts : List Expr} {kk : Nat} {tpos : Pos} (t : Bool) (a e it : Addr) (ne : a ≠ it) (hef : e ∉ [it, a]) :
    Turn P w K (.Tuple elts kk tpos) (IteB t K a) [e, it] e (fun i h => (∃ old, IsEnum h e it ((i : Nat) : Int) old) ∧ ItO t h it a i) where
  mem := by simp
  obj := fun i h st b hb => by
    obtain ⟨⟨old, he⟩, hi⟩ := st
    have e' : b = e ∨ b = it := by simpa using hb
    rcases e' with z | z
    · rw [z]; exact ⟨_, he, fun v q => nomatch q⟩
    · rw [z]; exact itO_obj hi
  keep := fun i h h' st k => let ⟨⟨old, he⟩, hi⟩ := st; ⟨⟨old, k e (by simp) _ he⟩, itO_at hi fun o q => k it (by simp) o q⟩
  item := by
    intro X hP hw hK hc i pins s σ H E I hf st hg
    subst hP hw hK
    obtain ⟨he, hit⟩ := st
    obtain ⟨xs, x, hq, hx⟩ := hg
    obtain ⟨its, rv, p⟩ := Inv.seqB I hq
    have hin : (X.A.in1).handled = none := I.ok.hd hc
    have W := WalksT.enumerateD (A := X.A) (draws_b (prog := X.prog) (w := X.w) t hin it a ne its.toArray) e (fun z => hef (by simp [z])) hef (by simp)
    have l1 := rv.length
    have hi : i < its.toArray.size := by
      have g1 := (List.getElem?_eq_some_iff.mp hx).1
      simp only [List.size_toArray]; omega
    refine W.item i s _ E hi ⟨he, ⟨hit, p⟩⟩ fun T vals h' tk hv hT hTup mid hk => ⟨_, rfl, W.go elts kk tpos i T _ _ E mid fun h'' st2 hk2 => ?_⟩
    obtain ⟨tt, v1, e1, rfl⟩ := hv
    have hap := W.apart i T h' mid
    have k2 : ∀ c o, c ∉ [e, it] → s.heap.get? c = some o → h''.get? c = some o := fun c o hc q => hk2 c o hc (hk c o hc q)
    have hT2 : h''.IsTuple T #[.int i tt, v1] := by
      obtain ⟨o, q, r⟩ := hTup
      exact ⟨o, hk2 T o hap q, r⟩
    obtain ⟨u1, hu1, ru1⟩ := vals_get rv hx
    have f1 : v1 = u1 := by
      have : its[i]? = some v1 := by simpa using e1
      rw [hu1] at this; exact (Option.some.inj this).symm
    subst f1
    have new : ObjOk X.prog X.w (upd H T (.tup [.int (i : Nat), x])) h'' T (.tup [.int (i : Nat), x]) := ⟨by show 2 ≤ sizeLine; decide, [.int i tt, v1], .cons ⟨_, rfl⟩ (.cons ru1 .nil), hT2⟩
    have I1 : Inv X pins σ (upd H T (.tup [.int (i : Nat), x])) { s with heap := h'', toks := tk } := I.turnedNew (t' := tk) (ch := [e, it]) k2 hf hT new
    obtain ⟨he', ⟨g1, _⟩⟩ := st2
    refine ⟨.ref T, _, I1, rfl, ⟨_, x, rfl, I.hok.fresh hT, rfl, fun l hl => by rw [Inv.injB I hl hq]; exact hx⟩, ⟨by simpa using he', g1⟩, fun c hcm => ?_⟩
    have hlt : c < s.heap.objs.size := by
      have e' : c = e ∨ c = it := by simpa using hcm
      obtain ⟨old, he⟩ := he
      rcases e' with q | q
      · rw [q]; exact Heap.lt_size he
      · rw [q]; obtain ⟨_, e1, _⟩ := itO_obj hit; exact Heap.lt_size e1
    rw [upd_ne (fun q => by rw [q] at hlt; exact Nat.lt_irrefl _ (Nat.lt_of_lt_of_le hlt hT))]
    exact (hf c hcm).1
  done := by
    intro X hP hw hK hc i pins s σ H E I hf st hg
    subst hP hw hK
    obtain ⟨he, hit⟩ := st
    obtain ⟨xs, hq, hend⟩ := hg
    obtain ⟨its, rv, p⟩ := Inv.seqB I hq
    have hin : (X.A.in1).handled = none := I.ok.hd hc
    have W := WalksT.enumerateD (A := X.A) (draws_b (prog := X.prog) (w := X.w) t hin it a ne its.toArray) e (fun z => hef (by simp [z])) hef (by simp)
    have l1 := rv.length
    have ei : i = its.toArray.size := by simp only [List.size_toArray]; omega
    rw [ei] at he hit
    exact W.done s _ E ⟨he, ⟨hit, p⟩⟩ fun h' tk hk => ⟨rfl, I.turnedL (t' := tk) (ch := [e, it]) hk hf⟩
  self := fun A i s Q E st h => let ⟨⟨_, he⟩, _⟩ := st; wpAny_pyIter_enum he h
def iEnumB (K : Fg) (ta : TA) : TI := fun σ H R => ta σ H fun vs H1 => ∃ (t : Bool) (a : Addr) (xs : List V), vs = [.ref a] ∧ SqB t K H1 a xs ∧ R (IteB t K a) H1
theorem pi_enumB {X : Cx} {e : Expr} {ta : TA} {p pos tpos : Pos} {elts : List Expr} {kk : Nat} (hg : Gl X "enumerate") (hm : X.mg "enumerate" = none) (ha : PA X [e] ta) (hs : starEach [e] X.env = [(false, eval e X.env)] := by rfl) :
    PI X (.Tuple elts kk tpos) (.Call (.Name "enumerate" p) [e] [] pos) (iEnumB X.K ta) := by
  refine ⟨fun pins s σ H R I h => ?_⟩
  refine Call_ (ld_blt I hg hm boot_enumerate (PyProof.Rows.callWith_type1 (thn (ha.run pos pins s σ H _ I h) fun us s1 ⟨vs, H1, I1, r1, q1⟩ => ?_) hs rfl))
  obtain ⟨t, a, xs, ex, hq, q⟩ := q1
  subst ex
  cases r1 with
  | cons r rr =>
    cases rr
    cases r
    obtain ⟨its, rv, p1⟩ := Inv.seqB I1 hq
    have q1 := seqO_lt p1
    refine enum_begins1 (begins_b t a its.toArray) p1 fun h' he hit hsz hk => wpAny_pyIter_enum he ?_
    have I2 : Inv X pins σ H1 { s1 with heap := h' } := I1.kept (t' := s1.toks) hk
    refine ⟨s1.heap.objs.size + 1, [s1.heap.objs.size + 1, s1.heap.objs.size], _, _, H1, rfl, I2, turn_enumB t a (s1.heap.objs.size + 1) s1.heap.objs.size (Nat.ne_of_lt q1) (fun m => ?_), ⟨⟨.none, he⟩, itO_new hit⟩, fun b hb => ?_, q⟩
    · have e' : s1.heap.objs.size + 1 = s1.heap.objs.size ∨ s1.heap.objs.size + 1 = a := by simpa using m
      rcases e' with z | z
      · exact Nat.succ_ne_self _ z
      · rw [← z] at q1; exact absurd q1 (Nat.not_lt.mpr (Nat.le_succ _))
    have e' : b = s1.heap.objs.size + 1 ∨ b = s1.heap.objs.size := by simpa using hb
    have hle : s1.heap.objs.size ≤ b := by
      rcases e' with z | z
      · rw [z]; exact Nat.le_add_right _ _
      · rw [z]; exact Nat.le_refl _
    exact I1.fpOk hle (I1.hok.fresh hle)
/-! ### as data -/
def seqD : D → Option (Bool × List D)
  | .lst ds => some (false, ds)
  | .tup ds => some (true, ds)
  | _ => none
theorem Rep.seq {K : Fg} {b : Option Addr} {H : Hp} {d : D} {v : V} {t : Bool} {ds : List D} (r : Rep K b H d v) (e : seqD d = some (t, ds)) : ∃ a vs, v = .ref a ∧ some a ≠ b ∧ SqB t K H a vs ∧ Reps K b H ds vs := by
  cases d with
  | lst es => cases e; exact r.lst
  | tup es => cases e; exact r.tup
  | _ => cases e
theorem sqB_mono {K : Fg} {b : Option Addr} {H H' : Hp} {t : Bool} {a : Addr} {xs : List V} (x : Le b H H') (hb : some a ≠ b) (h : SqB t K H a xs) : SqB t K H' a xs := by
  cases t
  · exact sqL_mono x hb h
  · exact sqT_mono x hb h
section
variable {X : Cx} {b : Option Addr} {H0 : Hp} {a c : Expr} {ga gb : GE} {pos p : Pos}
def gZipA (ga gb : GE) : GI := fun σ k => ga σ fun x => gb σ fun y => match x, y with
  | .lst ds, .lst es => k (pairsD ds es)
  | .lst ds, .tup es => k (pairsD ds es)
  | .tup ds, .lst es => k (pairsD ds es)
  | .tup ds, .tup es => k (pairsD ds es)
  | _, _ => False
theorem gZipA_seq {x y : D} {k : List D → Prop} (h : match x, y with
  | .lst ds, .lst es => k (pairsD ds es)
  | .lst ds, .tup es => k (pairsD ds es)
  | .tup ds, .lst es => k (pairsD ds es)
  | .tup ds, .tup es => k (pairsD ds es)
  | _, _ => False) : ∃ t u ds es, seqD x = some (t, ds) ∧ seqD y = some (u, es) ∧ k (pairsD ds es) := by
  cases x <;> cases y <;> first | exact ⟨_, _, _, _, rfl, rfl, h⟩ | exact h.elim
theorem gZipA_mn (A : Mn ga) (B : Mn gb) : Mn (gZipA ga gb) := fun σ k k' i q => A _ _ _ (fun x z => B _ _ _ (fun y w => by
  cases x <;> cases y <;> first | exact i _ w | exact w.elim) z) q
theorem pairs_min : ∀ {ds es : List D}, (pairsD ds es).length = min ds.length es.length
  | [], es => by simp [pairsD]
  | d :: ds, [] => by simp [pairsD]
  | d :: ds, e :: es => by
    show (_ :: pairsD ds es).length = _
    rw [List.length_cons, pairs_min, List.length_cons, List.length_cons]; omega
theorem wlk_zipB {K : Fg} {O : List Addr} {H1 : Hp} {ds es : List D} {a a2 : Addr} {vs us : List V} {t u : Bool} (n : some a ≠ b) (n2 : some a2 ≠ b) (h : SqB t K (hide O H1) a vs) (h2 : SqB u K (hide O H1) a2 us) (r : Reps K b (hide O H1) ds vs) (r2 : Reps K b (hide O H1) es us) : Wlk K b O (pairsD ds es) (ItzB t u K a a2) H1 := fun i H2 O2 x F => by
  have g1 : SqB t K H2 a vs := sqB_mono hide_le n (sqB_mono x.1 n h)
  have g2 : SqB u K H2 a2 us := sqB_mono hide_le n2 (sqB_mono x.1 n2 h2)
  refine ⟨fun d e => ?_, fun hi => ⟨vs, us, g1, g2, ?_⟩⟩
  · obtain ⟨v1, v2, e1, e2⟩ := pairs_at r r2 e
    refine ⟨⟨vs, us, v1, v2, g1, g2, e1, e2⟩, fun y H3 yl => ?_⟩
    obtain ⟨T, x1, y1, rfl, hT, rfl, f1, f2⟩ := yl
    exact zip_item F hT (r.mono x.1) (r2.mono x.1) e (f1 _ g1) (f2 _ g2)
  · rw [hi, pairs_min, r.length, r2.length]
theorem di_zipA {elts : List Expr} {kk : Nat} {tpos : Pos} (A : DE b H0 X a ga) (B : DE b H0 X c gb) (hg : Gl X "zip") (hm : X.mg "zip" = none) (hs : starEach [a, c] X.env = (false, eval a X.env) :: starEach [c] X.env := by rfl) (hs2 : starEach [c] X.env = (false, eval c X.env) :: starEach [] X.env := by rfl)
    (hpl : (backTo pos (starEach [c] X.env)).any (·.1) = false := by rfl) : DI b H0 X (.Tuple elts kk tpos) (.Call (.Name "zip" p) [a, c] [] pos) (gZipA ga gb) := by
  refine ⟨pi_imp (pi_zipB hg hm (pa_cons A.pe (pa_cons B.pe pa_nil hs2) hs) hs hpl) fun σ H Q ⟨σd, O, R, q⟩ => ?_, gZipA_mn A.mn B.mn⟩
  refine ⟨σd, O, R, A.mn _ _ _ (fun d z v H1 x1 r1 => ⟨σd, O, R.mono x1, B.mn _ _ _ (fun d2 z v2 H2 x2 r2 => ?_) z⟩) q⟩
  have r1 := r1.mono (x2.1.hide O)
  obtain ⟨t, u, ds, es, e1, e2, z⟩ := gZipA_seq (x := d) (y := d2) (k := fun ds => ∀ (J : It) (H' : Hp), Ext b H H' → Wlk X.K b O ds J H' → Q J H') z
  obtain ⟨a1, vs, rfl, n1, h1, s1⟩ := r1.seq e1
  obtain ⟨a2, us, rfl, n2, h2, s2⟩ := r2.seq e2
  exact ⟨t, u, a1, a2, vs, us, rfl, sqB_mono hide_le n1 h1, sqB_mono hide_le n2 h2, z _ _ (x1.trans x2) (wlk_zipB n1 n2 h1 h2 s1 s2)⟩
def enumD : Nat → List D → List D
  | _, [] => []
  | i, d :: r => .tup [.int i, d] :: enumD (i + 1) r
theorem enumD_len : ∀ {j : Nat} {ds : List D}, (enumD j ds).length = ds.length
  | _, [] => rfl
  | j, d :: r => by simp [enumD, enumD_len]
theorem enumD_at : ∀ {ds : List D} {j i : Nat} {x : D}, (enumD j ds)[i]? = some x → ∃ d, ds[i]? = some d ∧ x = .tup [.int ((j + i : Nat) : Int), d]
  | [], j, i, x, h => by simp [enumD] at h
  | d :: r, j, 0, x, h => by
    simp [enumD] at h
    exact ⟨d, rfl, by rw [← h]; rfl⟩
  | d :: r, j, i + 1, x, h => by
    obtain ⟨d', e1, e2⟩ := enumD_at (ds := r) (j := j + 1) (i := i) (x := x) (by simpa [enumD] using h)
    refine ⟨d', by simpa using e1, ?_⟩
    rw [e2]
    have : j + 1 + i = j + (i + 1) := by omega
    rw [this]
def gEnum (ga : GE) : GI := fun σ k => ga σ fun x => match x with
  | .lst ds => k (enumD 0 ds)
  | .tup ds => k (enumD 0 ds)
  | .frl _ ds => k (enumD 0 ds)
  | _ => False
theorem gEnum_mn (A : Mn ga) : Mn (gEnum ga) := fun σ k k' i q => A _ _ _ (fun x z => by
  cases x <;> first | exact i _ z | exact z.elim) q
theorem wlk_enum {K : Fg} {O : List Addr} {H1 : Hp} {ds : List D} {a : Addr} {vs : List V} {t : Bool} (n : some a ≠ b) (h : SqB t K (hide O H1) a vs) (r : Reps K b (hide O H1) ds vs) : Wlk K b O (enumD 0 ds) (IteB t K a) H1 := fun i H2 O2 x F => by
  have g1 : SqB t K H2 a vs := sqB_mono hide_le n (sqB_mono x.1 n h)
  refine ⟨fun d e => ?_, fun hi => ⟨vs, g1, by rw [hi, enumD_len, r.length]⟩⟩
  obtain ⟨d', e1, rfl⟩ := enumD_at e
  obtain ⟨v, e2, rv⟩ := (r.mono x.1).get e1
  refine ⟨⟨vs, v, g1, e2⟩, fun y H3 yl => ?_⟩
  obtain ⟨T, x1, rfl, hT, rfl, f1⟩ := yl
  have e3 := f1 _ g1
  rw [e2] at e3; cases e3
  obtain ⟨m1, m2⟩ := F T hT
  refine ⟨.new hT, ?_⟩
  rw [hide_new m1, Nat.zero_add]
  exact Rep.mkTup m2 (.inl (.inl upd_same)) (Reps.cons rfl (Reps.cons (rv.mono (Le.new (hide_none hT))) Reps.nil))
theorem di_enum {elts : List Expr} {kk : Nat} {tpos : Pos} (A : DE b H0 X a ga) (hg : Gl X "enumerate") (hm : X.mg "enumerate" = none) (hs : starEach [a] X.env = [(false, eval a X.env)] := by rfl) (hs2 : starEach [a] X.env = (false, eval a X.env) :: starEach [] X.env := by rfl) :
    DI b H0 X (.Tuple elts kk tpos) (.Call (.Name "enumerate" p) [a] [] pos) (gEnum ga) := by
  refine ⟨pi_imp (pi_enumB hg hm (pa_cons A.pe pa_nil hs2) hs) fun σ H Q ⟨σd, O, R, q⟩ => ?_, gEnum_mn A.mn⟩
  refine ⟨σd, O, R, A.mn _ _ _ (fun d z v H1 x1 r1 => ?_) q⟩
  cases d with
  | lst ds =>
    obtain ⟨a1, vs, rfl, n1, h1, s1⟩ := r1.lst
    exact ⟨false, a1, vs, rfl, sqL_mono hide_le n1 h1, z _ _ x1 (wlk_enum (t := false) n1 h1 s1)⟩
  | tup ds =>
    obtain ⟨a1, vs, rfl, n1, h1, s1⟩ := r1.tup
    exact ⟨true, a1, vs, rfl, sqT_mono hide_le n1 h1, z _ _ x1 (wlk_enum (t := true) n1 h1 s1)⟩
  | frl a1 ds =>
    obtain ⟨o, vs, rfl, n1, h1, s1⟩ := r1.frl
    have h1 : SqL X.K (hide O H1) a1 vs := .inl (.inr ⟨o, h1⟩)
    exact ⟨false, a1, vs, rfl, sqL_mono hide_le n1 h1, z _ _ x1 (wlk_enum (t := false) n1 h1 s1)⟩
  | _ => exact z.elim
end
end DL
/-! DI3 -/
set_option Elab.async false
set_option linter.all false
set_option maxRecDepth 100000
set_option maxHeartbeats 4000000
/-! +, * and slices of any data; constants and static methods of classes. -/
namespace DL
open PySem PySem.Spec PyProof.Rows L2
variable [TabC]
/-- + of ints, texts, lists, tuples -/
def dAddB : D → D → (D → Prop) → Prop := fun x y k => match x, y with
  | .int i, .int j => k (.int (i + j))
  | .str i, .str j => i.length + j.length ≤ 1000000 ∧ k (.str (i ++ j))
  | .lst i, .lst j => i.length + j.length ≤ 1000000 ∧ k (.lst (i ++ j))
  | .tup i, .tup j => i.length + j.length ≤ 1000000 ∧ k (.tup (i ++ j))
  | _, _ => False
theorem reps_nil_iff {K : Fg} {b : Option Addr} {H : Hp} {ds : List D} {vs : List V} (r : Reps K b H ds vs) : vs = [] ↔ ds = [] := by
  rw [← List.length_eq_zero_iff, ← List.length_eq_zero_iff, r.length]
section
variable {X : Cx} {b : Option Addr} {H0 : Hp} {a c e : Expr} {ga gb ge : GE} {pos p p2 : Pos}
theorem de_addB (A : DE b H0 X a ga) (B : DE b H0 X c gb) : DE b H0 X (.BinOp a .Add c pos) (g2 dAddB ga gb) := by
  refine de_opS (((op_add.or op_add_str).or op_catL).or L2.op_catA) ⟨fun x y k k' i q => ?_, fun O H dx dy x y Q F r1 r2 q => ?_⟩ A B
  · cases x <;> cases y <;> first | exact i _ q | exact ⟨q.1, i _ q.2⟩ | exact q.elim
  · cases dx <;> cases dy <;> first
      | exact q.elim
      | (cases r1.int; cases r2.int; exact .inl (.inl (.inl ⟨_, _, rfl, rfl, q _ H (.refl H) rfl⟩)))
      | (cases r1.str; cases r2.str; exact .inl (.inl (.inr ⟨_, _, rfl, rfl, line_m q.1, q.2 _ H (.refl H) rfl⟩)))
      | (obtain ⟨a1, vs, rfl, n1, h1, s1⟩ := r1.lst
         obtain ⟨a2, us, rfl, n2, h2, s2⟩ := r2.lst
         exact .inl (.inr ⟨a1, a2, vs, us, rfl, rfl, sqL_mono hide_le n1 h1, sqL_mono hide_le n2 h2, by rw [← s1.length, ← s2.length]; exact line_m q.1, fun p hp => q.2 _ _ (.new hp) (rep_newL F hp (s1.append s2))⟩))
      | (obtain ⟨a1, vs, rfl, n1, h1, s1⟩ := r1.tup
         obtain ⟨a2, us, rfl, n2, h2, s2⟩ := r2.tup
         refine .inr ⟨a1, a2, vs, us, rfl, rfl, sqT_mono hide_le n1 h1, sqT_mono hide_le n2 h2, by rw [← s1.length, ← s2.length]; exact line_m q.1, fun e => ?_, fun e e2 => ?_, fun e e2 p hp => q.2 _ _ (.new hp) (rep_newT F hp (s1.append s2))⟩
         · have := (reps_nil_iff s1).mp e
           subst this
           exact q.2 _ _ (.refl H) (Rep.mkTup n2 h2 s2)
         · have := (reps_nil_iff s2).mp e2
           subst this
           refine q.2 _ _ (.refl H) ?_
           rw [List.append_nil]
           exact Rep.mkTup n1 h1 s1)
/-! ### * -/
def dMulA : D → D → (D → Prop) → Prop := fun x y k => match x, y with
  | .int i, .int j => MulOk i j ∧ k (.int (i * j))
  | .str z, .int n => (0 ≤ n ∧ n ≤ 1000 ∧ z.length ≤ 1000) ∧ k (.str (Txt.mul z n))
  | _, _ => False
/-! ### slices, the whole too -/
def cutD (ds : List D) (lo hi : Option Int) : List D := (ds.drop (HT.sIx ds.length 0 lo)).take (HT.sIx ds.length ds.length hi - HT.sIx ds.length 0 lo)
def gSlA (ge : GE) (gl gh : StD → (Option Int → Prop) → Prop) : GE := fun σ k => ge σ fun d => gl σ fun lo => gh σ fun hi => match d with
  | .str z => z.length ≤ 1000000 ∧ k (.str (cutS z lo hi))
  | .lst ds => k (.lst (cutD ds lo hi))
  | .tup ds => k (.tup (cutD ds lo hi))
  | _ => False
/-! ### constants of classes -/
end
end DL
/-! DI4 -/
set_option Elab.async false
set_option linter.all false
set_option maxRecDepth 100000
set_option maxHeartbeats 4000000
/-! Binding of a call's values, by its shape; what is asked of own operators, as tests. -/
namespace DL
open PySem PySem.Spec PyProof.Rows L2
variable [TabC]
/-- n values, then keywords ks: bound to the parameters ps by ix, over the values, the keywords' values and the defaults -/
def Bnds (K : Fg) (fd : FuncData) (ps : List Str) (n : Nat) (ks : List Str) (ix : List Nat) (dus : List Value) : Prop :=
  ∀ (s : Shared) (us kus : List Value), K.In s.heap → us.length = n → kus.length = ks.length → BindsTo s fd ⟨us, ks.zip kus⟩ (ps.zip (pick ix (us ++ kus ++ dus)))
section
variable {P : Program} {w : World} {K : Fg} {mg : Str → Option Value} {base : Heap} {x qual : Str} {params : Arguments} {body : List Stmt} {scope : Scope} {dvs : List V} {kws : List (Str × V)} {f : Addr} {fd : FuncData} {ps : List Str}
theorem bnd00 (F : FunD K x qual params body scope [] kws f fd) (n : Nat) (ks : List Str) (ix : List Nat)
    (h : ∀ (kV doc pm : Value) (an : Option Addr) (cdv ct : Value) (us ws : List Value), us.length = n → ws.length = ks.length →
      bindArgs (PySem.W.fnOf x qual params body scope .none kV doc pm an cdv ct) ⟨us, ks.zip ws⟩ = pure (ps.zip (pick ix (us ++ ws ++ [])))) : Bnds K fd ps n ks ix [] := by
  obtain ⟨oc, od, dV, kV, doc, pm, an, cdv, ct, osl, rfl, lk, hcd, hD, hK⟩ := F.ex
  rcases hD with ⟨_, rfl⟩ | ⟨e, _⟩
  · exact fun s us ws X l1 l2 => .of_eq (h kV doc pm an cdv ct us ws l1 l2)
  · exact absurd rfl e
theorem bnd10 (F : FunD K x qual params body scope dvs kws f fd) (n : Nat) (ks : List Str) (ix : List Nat) (hd : dvs ≠ [])
    (h : ∀ (T : Addr) (kV doc pm : Value) (an : Option Addr) (cdv ct : Value) (us its ws : List Value), us.length = n → its.length = dvs.length → ws.length = ks.length →
      ∃ k, bindArgs (PySem.W.fnOf x qual params body scope (.ref T) kV doc pm an cdv ct) ⟨us, ks.zip ws⟩ = seqItems? (.ref T) >>= k ∧ k (some its.toArray) = pure (ps.zip (pick ix (us ++ ws ++ its)))) :
    ∃ dus, Vals dvs dus ∧ Bnds K fd ps n ks ix dus := by
  obtain ⟨oc, od, dV, kV, doc, pm, an, cdv, ct, osl, rfl, lk, hcd, hD, hK⟩ := F.ex
  rcases hD with ⟨e, _⟩ | ⟨_, T, o, its, m, rfl, lT, oT, rT⟩
  · exact absurd e hd
  · refine ⟨its, rT, fun s us ws X l1 l2 => ?_⟩
    obtain ⟨k, e1, e2⟩ := h T kV doc pm an cdv ct us its ws l1 rT.length.symm l2
    refine BindsTo.of_looks fun M => ?_
    rw [e1]
    exact looks_items X lT oT (.of_pure e2)
/-- all parameters by position -/
theorem FnOk.c0 {sp : Sp} {k : Nat} (F : FnOk P w K mg base (L2.CX P w) k f fd ps sp) (hb : Binds K fd ps []) : FnC P w K mg base k f [] sp := fun A outer s H us kus vs Q E hr e0 hk r h => by
  have : kus = [] := List.length_eq_zero_iff.mp hk
  subst this
  rw [List.append_nil] at r
  have hl : us.length = ps.length := by rw [← r.length]; exact F.len _ _ _ _ h
  have := hb s us (e0.mod.kin.keeps fun b o e => (e0.bs b o e).1) (by simpa using hl)
  exact F.run A outer s H ⟨us, []⟩ us vs Q E hr e0 (by simpa using this) r h
end
/-! ### own operators, by a test -/
end DL
namespace DL
open PySem PySem.Spec PyProof.Rows L2
variable [TabC]
/-- keywords' values, their number known -/
structure DKN (b : Option Addr) (H0 : Hp) (X : Cx) (kws : List Keyword) (n : Nat) (g : GA) : Prop where
  dk : DK b H0 X kws g
  ln : ∀ σ (k : List D → Prop), g σ k → g σ fun ds => ds.length = n ∧ k ds
section
variable {X : Cx} {b : Option Addr} {H0 : Hp} {e : Expr} {es : List Expr} {kws : List Keyword} {g ga gk : GA} {ge : GE} {pos kpos : Pos} {ks : List Str} {n : Nat} {nm : Option Str}
theorem dkn_nil : DKN b H0 X [] 0 gNil := ⟨dk_nil, kn_nil⟩
theorem dkn_cons (A : DE b H0 X e ge) (B : DKN b H0 X kws n g) : DKN b H0 X (⟨nm, e, kpos⟩ :: kws) (n + 1) (gCons ge g) := ⟨dk_cons A B.dk, kn_cons A.mn B.dk.mn B.ln⟩
theorem dca_k0 (B : DKN b H0 X kws n gk) (hall : (backToKw pos (keywordEach kws X.env)).all (·.1.isSome) = true := by rfl) (hks : (backToKw pos (keywordEach kws X.env)).filterMap (·.1) = ks := by rfl) (hl : n = ks.length := by rfl) (hl2 : kws.length = ks.length := by rfl)
    (hpl : ((backTo pos (starEach [] X.env)).any (·.1) || (backToKw pos (keywordEach kws X.env)).any (·.1.isNone)) = false := by rfl) : DCA b H0 X pos [] kws ks gk := dca_kw0 B.dk hall hks hl2 hpl (by subst hl; exact B.ln)
end
end DL
/-! DJ1 -/
set_option Elab.async false
set_option linter.all false
set_option maxRecDepth 100000
set_option maxHeartbeats 4000000
/-! Lists that the frame owns: made, appended to, given away. -/
namespace DL
open PySem PySem.Spec PyProof.Rows L2
variable [TabC]
section
variable {X : Cx} {b : Option Addr} {H0 : Hp} {pos pos' : Pos} {e : Expr} {es : List Expr} {ge : GE} {ga : GA} {x : Str} {i : Nat} {sts : List Stmt} {g : GSt}
/-- x = [..], the list the frame's own -/
def gAsgO (i : Nat) (ga : GA) : GSt := fun D σ => ga σ fun ds => ds.length ≤ 1000 ∧ D.nx (put σ i (.own ds))
/-- x.append(e) -/
def gPsh (i : Nat) (ge : GE) : GSt := fun D σ => match look σ i with | .own ds => ge σ fun d => ds.length < 100000 ∧ D.nx (put σ i (.own (ds ++ [d]))) | _ => False
end
end DL
/-! DJ2 -/
set_option Elab.async false
set_option linter.all false
set_option maxRecDepth 100000
set_option maxHeartbeats 4000000
/-! Lambdas as data; a lambda called from a frame above the one that made it. -/
namespace DL
open PySem PySem.Spec PyProof.Rows L2
/-! ### called -/
end DL
/-! DJ3 -/
set_option Elab.async false
set_option linter.all false
set_option maxRecDepth 100000
set_option maxHeartbeats 4000000
/-! _law_whys: each lambda of a list is asked. -/
namespace DL
open PySem PySem.Spec PyProof.Rows L2
variable [TabC]
def gAns (i : Nat) (A : LamO → (Str → D → Prop) → Prop) : GE := fun σ k => match look σ i with | .sh (.clo o) => A o fun c y => k (.tup [.str c, y]) | _ => False
end DL
/-! DF8 -/
set_option Elab.async false
set_option linter.all false
set_option maxRecDepth 100000
set_option maxHeartbeats 4000000
/-! Reading what a derivation says. -/
namespace DL
open PySem PySem.Spec PyProof.Rows L2
end DL
namespace DL
open PySem PySem.Spec PyProof.Rows L2
def blkB (N : List Str) (sc scope : Scope) (own : List (Str × Nat)) : Bool :=
  decide (scope.kind = .function) && ((scope.names.all fun y => decide (scope.names.lookup y.1 = some y.2)) && ((own.all fun p => decide (N[p.2]? = some p.1)) && ((scope.names.all fun y => !decide (y.2 = .free) || (decide (sc.names.lookup y.1 = some .cell) || decide (sc.names.lookup y.1 = some .free))) &&
    scope.names.all fun y => !(decide (y.2 = .local) || decide (y.2 = .cell)) || (decide (y.1 ∈ own.map (·.1)) || decide (y.1 ∉ N)))))
theorem blk_ok {N : List Str} {sc scope : Scope} {own : List (Str × Nat)} (h : blkB N sc scope own = true) : BlkOk N sc scope own := by
  unfold blkB at h
  simp only [Bool.and_eq_true, Bool.or_eq_true, Bool.not_eq_true', decide_eq_true_eq, decide_eq_false_iff_not, List.all_eq_true, Bool.or_eq_false_iff] at h
  obtain ⟨h1, h2, h3, h4, h5⟩ := h
  refine ⟨h1, h2, h3, fun y hy e => ?_, fun y hy e => ?_⟩
  · rcases h4 y hy with z | z
    · exact absurd e z
    · exact z
  · rcases h5 y hy with z | z
    · rcases e with e | e
      · exact absurd e z.1
      · exact absurd e z.2
    · exact z
end DL
/-! DG1 -/
set_option Elab.async false
set_option linter.all false
set_option maxRecDepth 100000
set_option maxHeartbeats 4000000
/-! Plain facts that the laws share: comprehensions, what the laws' helpers promise. -/
namespace DL
open PySem PySem.Spec PyProof.Rows L2
variable [TabC]
/-! ### comprehensions without tests -/
theorem lcD_mapL {α : Type} {t : Tgt} {ge : GE} {σ : StD} (g f : α → D) {l : List α} {acc : List D} {k : D → Prop} (h : ∀ x ∈ l, ∀ kk : D → Prop, kk (f x) → asg t (g x) σ fun σ2 => ge σ2 kk) (hl : acc.length + l.length ≤ 1000000) (hk : k (.lst (acc ++ l.map f))) : lcD t gYes ge σ (l.map g) acc k := by
  induction l generalizing acc with
  | nil =>
    simp only [List.map_nil, List.append_nil] at hk
    exact hk
  | cons d r ih =>
    refine asg_mn _ _ _ _ _ (fun s z => z) (h d List.mem_cons_self (fun y => acc.length < 1000000 ∧ lcD t gYes ge σ (r.map g) (acc ++ [y]) k) ⟨?_, ?_⟩)
    · simp only [List.length_cons] at hl; omega
    · refine ih (fun d' hd' => h d' (List.mem_cons_of_mem _ hd')) (by simp only [List.length_cons, List.length_append, List.length_nil] at hl ⊢; omega) ?_
      simpa using hk
/-! ### ways -/
theorem blsOf_map {α : Type} (f : α → Bool) : ∀ l : List α, blsOf (l.map fun x => D.bl (f x)) = some (l.map f)
  | [] => rfl
  | x :: r => by simp only [List.map_cons, blsOf, blsOf_map f r]; rfl
/-- all(..) over truths -/
theorem dAll_bls {α : Type} {f : α → Bool} {l : List α} {k : D → Prop} (h : k (.bl (l.all f))) : dAll (.lst (l.map fun x => D.bl (f x))) k := by
  simp only [dAll, blsOf_map]
  have e : (l.map f).all id = l.all f := by rw [List.all_map]; rfl
  rw [e]; exact h
/-! ### a thing drawn from many -/
def itemsD : D → List D
  | .lst ds => ds | .tup ds => ds | .str z => signs z | _ => []
def sOf : GS := fun ds k _ => ∃ x, ds = [.bag, x] ∧ itemsD x ≠ [] ∧ (itemsD x).length ≤ 1000000 ∧ ∀ d ∈ itemsD x, k d
theorem sOf_mn : MnS sOf := fun ds k k' e e' h1 _ ⟨x, h, h2, h3, q⟩ => ⟨x, h, h2, h3, fun d hd => h1 _ (q d hd)⟩
theorem atI_of {α : Type} {xs : List α} {d : Int} (h0 : 0 ≤ d) (h1 : d < xs.length) : ∃ x ∈ xs, atI xs d = some x := by
  have hlt : d.toNat < xs.length := by omega
  refine ⟨xs[d.toNat], List.getElem_mem hlt, ?_⟩
  unfold atI ixN
  rw [if_pos h0, if_pos h1]
  show xs[d.toNat]? = _
  exact List.getElem?_eq_getElem hlt
theorem dIx_of {x : D} {d : Int} {k : D → Prop} (hx : (itemsD x).length ≤ 1000000) (h0 : 0 ≤ d) (h1 : d < (itemsD x).length) (q : ∀ y ∈ itemsD x, k y) : dIx x (.int d) k := by
  cases x with
  | lst ds =>
    obtain ⟨y, hy, e⟩ := atI_of (xs := ds) h0 h1
    show match atI ds d with | some d => k d | none => False
    rw [e]; exact q y hy
  | tup ds =>
    obtain ⟨y, hy, e⟩ := atI_of (xs := ds) h0 h1
    show match atI ds d with | some d => k d | none => False
    rw [e]; exact q y hy
  | str z =>
    have el : (itemsD (.str z)).length = z.cps.toList.length := by simp [itemsD, signs]
    rw [el] at h1 hx
    obtain ⟨c, hc, e⟩ := atI_of (xs := z.cps.toList) h0 h1
    show z.length ≤ 1000000 ∧ match atI z.cps.toList d with | some c => k (.str ⟨#[c]⟩) | none => False
    rw [e]
    exact ⟨by simpa [Str.length] using hx, q _ (List.mem_map.mpr ⟨c, hc, rfl⟩)⟩
  | _ => simp [itemsD] at h1; omega
/-! ### the same, told of one thing twice -/
mutual
def goodD : D → Bool
  | .non => true | .bl _ => true | .int _ => true | .str _ => true
  | .tup ds => decide (ds.length ≤ 100000) && goodDs ds
  | .lst ds => decide (ds.length ≤ 100000) && goodDs ds
  | _ => false
def goodDs : List D → Bool
  | [] => true
  | d :: r => goodD d && goodDs r
end
mutual
def dep : D → Nat
  | .tup ds => deps ds + 1
  | .lst ds => deps ds + 1
  | _ => 0
def deps : List D → Nat
  | [] => 0
  | d :: r => max (dep d) (deps r)
end
theorem goodDs_mem : ∀ {ds : List D}, goodDs ds = true → ∀ d ∈ ds, goodD d = true
  | [], _, d, h => by cases h
  | x :: r, g, d, h => by
    simp only [goodDs, Bool.and_eq_true] at g
    rcases List.mem_cons.mp h with rfl | h
    · exact g.1
    · exact goodDs_mem g.2 d h
theorem deps_mem : ∀ {ds : List D}, ∀ d ∈ ds, dep d ≤ deps ds
  | [], d, h => by cases h
  | x :: r, d, h => by
    simp only [deps]
    rcases List.mem_cons.mp h with rfl | h
    · omega
    · have := deps_mem d h; omega
def sSame (n : Nat) : GS := fun ds k _ => ∃ d, ds = [d, d] ∧ goodD d = true ∧ dep d < n ∧ k (.bl true)
theorem sSame_mn (n : Nat) : MnS (sSame n) := fun ds k k' e e' h1 _ ⟨x, h, h2, h3, q⟩ => ⟨x, h, h2, h3, h1 _ q⟩
theorem pairsD_self : ∀ ds : List D, pairsD ds ds = ds.map fun d => .tup [d, d]
  | [] => rfl
  | d :: r => by simp only [pairsD, List.map_cons, pairsD_self r]
/-! ### gcd by the laws' own loop -/
end DL
/-! DG2 -/
set_option Elab.async false
set_option linter.all false
set_option maxRecDepth 100000
set_option maxHeartbeats 4000000
/-! The law's def: its code object known; its body run. -/
namespace DL
open PySem PySem.Spec PyProof.Rows L2
variable [TabC]
theorem FunD.okC {P : Program} {w : World} {K : Fg} {mg : Str → Option Value} {base : Heap} {x qual : Str} {params : Arguments} {body : List Stmt} {scope : Scope} {dvs : List V} {kws : List (Str × V)} {f : Addr} {fd : FuncData} {CX : CXT} {N ps : List Str} {k : Nat} {sp : Sp} (F : FunD K x qual params body scope dvs kws f fd) (S : FnScope N ps scope) (len : ∀ vs H Q E, sp vs H Q E → vs.length = ps.length)
    (hbody : ∀ (cdv : Value) (A : Around) (outer : List Env) (s : Shared) (H : Hp) (vs : List V) (Q : VK) (E : XK), cdv = fd.code → Room k (A.deeper (envOfC qual scope s.heap.objs.size f cdv)) → sp vs H Q E →
      ∃ t, PSs (cxOf CX P w K mg base N qual scope f cdv A outer s H E) body t ∧ t { nx := fun _ H' => Q .non H', rt := Q } (L2.start N vs) H) : FnOk P w K mg base CX (k + 1) f fd ps sp := by
  obtain ⟨oc, od, dV, kV, doc, pm, an, cdv, ct, osl, rfl, lk, hcd, _, _⟩ := F.ex
  exact fn_of lk hcd S len fun A outer s H vs Q E hr hsp => hbody cdv A outer s H vs Q E rfl hr hsp
theorem law_run {X : Cx} {st : Stmt} {sts : List Stmt} {g : GSt} {vs : List V} {H : Hp} {Q : VK} {E : XK} {N : List Str} (hst : PS X st (tBagCall X.K)) (hd : ∀ (b : Option Addr) (H0 : Hp), LamX.Tabs TabC.T H0 → DSs b H0 X sts g) (h : spLaw X.K vs H Q E) (hN : 2 ≤ N.length)
    (r : g (fin fun d => d = .bl true) (.unset :: .sh .bag :: List.replicate (N.length - 2) .unset)) : ∃ t, PSs X (st :: sts) t ∧ t { nx := fun _ H' => Q .non H', rt := Q } (L2.start N vs) H := by
  have hT : LamX.Tabs TabC.T H := by
    obtain ⟨_, _, _, _, _, hT, _⟩ := h
    exact hT
  exact ⟨_, pss_cons hst (pss_bagged hd), law_read hN h (hd none H hT).mn r⟩
end DL
namespace DL
open PySem PySem.Spec PyProof.Rows L2
end DL
/-! DP1 -/
set_option Elab.async false
set_option linter.all false
set_option maxRecDepth 100000
set_option maxHeartbeats 4000000
/-! Plain lemmas: lists of ints as data. -/
namespace DL
open PySem PySem.Spec PyProof.Rows L2
variable [TabC]
abbrev dints (l : List Int) : List D := l.map D.int
theorem toPys_ints : ∀ l : List Int, toPys (dints l) = some (l.map PyData.int)
  | [] => rfl
  | x :: r => by
    show (match toPy (.int x), toPys (dints r) with | some p, some q => some (p :: q) | _, _ => none) = _
    rw [toPys_ints r]; rfl
theorem canLay_ints : ∀ l : List Int, PyData.canLayAll0 (l.map PyData.int) = true
  | [] => rfl
  | x :: r => by
    show (PyData.canLay0 (.int x) && PyData.canLayAll0 (r.map PyData.int)) = true
    rw [canLay_ints r]; rfl
theorem depth_ints : ∀ l : List Int, PyData.depthAll (l.map PyData.int) = 0
  | [] => rfl
  | x :: r => by
    show max 0 (PyData.depthAll (r.map PyData.int)) = 0
    rw [depth_ints r]; rfl
theorem eqv_ints : ∀ l m : List Int, PyData.eqvAll (l.map PyData.int) (m.map PyData.int) = (l == m)
  | [], [] => rfl
  | [], y :: s => rfl
  | x :: r, [] => rfl
  | x :: r, y :: s => by
    show (PyData.eqv (.int x) (.int y) && PyData.eqvAll (r.map PyData.int) (s.map PyData.int)) = _
    rw [eqv_ints r s]
    show ((x == y) && (r == s)) = _
    rfl
theorem shaped_tints (l : List Int) : SeqAt.shaped (.tuple (l.map PyData.int)) = true := by
  show (PyData.canLayAll0 (l.map PyData.int) && decide (PyData.depthAll (l.map PyData.int) + 1 ≤ 64)) = true
  rw [canLay_ints, depth_ints]; rfl
theorem shaped_lints (l : List Int) : SeqAt.shaped (.list (l.map PyData.int)) = true := by
  show (PyData.canLayAll0 (l.map PyData.int) && decide (PyData.depthAll (l.map PyData.int) + 1 ≤ 64)) = true
  rw [canLay_ints, depth_ints]; rfl
theorem dEqA_tints {l m : List Int} {neg : Bool} {k : D → Prop} (q : k (.bl (if neg then !(l == m) else l == m))) : dEqA neg (.tup (dints l)) (.tup (dints m)) k := by
  show dEq neg _ _ k
  have e1 : toPy (.tup (dints l)) = some (.tuple (l.map PyData.int)) := by simp only [toPy, toPys_ints]; rfl
  have e2 : toPy (.tup (dints m)) = some (.tuple (m.map PyData.int)) := by simp only [toPy, toPys_ints]; rfl
  unfold dEq
  rw [e1, e2]
  refine ⟨shaped_tints _, shaped_tints _, ?_⟩
  have : PyData.eqv (.tuple (l.map PyData.int)) (.tuple (m.map PyData.int)) = (l == m) := eqv_ints l m
  rw [this]; exact q
theorem dEqA_lints {l m : List Int} {neg : Bool} {k : D → Prop} (q : k (.bl (if neg then !(l == m) else l == m))) : dEqA neg (.lst (dints l)) (.lst (dints m)) k := by
  show dEq neg _ _ k
  have e1 : toPy (.lst (dints l)) = some (.list (l.map PyData.int)) := by simp only [toPy, toPys_ints]; rfl
  have e2 : toPy (.lst (dints m)) = some (.list (m.map PyData.int)) := by simp only [toPy, toPys_ints]; rfl
  unfold dEq
  rw [e1, e2]
  refine ⟨shaped_lints _, shaped_lints _, ?_⟩
  have : PyData.eqv (.list (l.map PyData.int)) (.list (m.map PyData.int)) = (l == m) := eqv_ints l m
  rw [this]; exact q
theorem pairs_ints : ∀ l m : List Int, pairsD (dints l) (dints m) = (l.zip m).map fun p => D.tup [.int p.1, .int p.2]
  | [], _ => by cases ‹List Int› <;> rfl
  | x :: r, [] => rfl
  | x :: r, y :: s => by
    show D.tup [.int x, .int y] :: pairsD (dints r) (dints s) = _
    rw [pairs_ints r s]; rfl
/-- small numbers -/
def Sms (n : Nat) (l : List Int) : Prop := ∀ x ∈ l, Sz n x
theorem Sms.cons {n : Nat} {x : Int} {l : List Int} (h : Sz n x) (r : Sms n l) : Sms n (x :: l) := fun y hy => by
  rcases List.mem_cons.mp hy with rfl | hy
  · exact h
  · exact r y hy
theorem Sms.nil {n : Nat} : Sms n [] := fun y hy => by cases hy
theorem Sz.mono {n m : Nat} {x : Int} (h : Sz n x) (hm : n ≤ m) : Sz m x := Nat.lt_of_lt_of_le h (Nat.pow_le_pow_right (by decide) hm)
theorem Sms.mono {n m : Nat} {l : List Int} (h : Sms n l) (hm : n ≤ m) : Sms m l := fun x hx => (h x hx).mono hm
theorem Sz.add {n : Nat} {x y : Int} (h : Sz n x) (g : Sz n y) : Sz (n + 1) (x + y) := by
  unfold Sz at *
  have e : 2 ^ (n + 1) = 2 ^ n + 2 ^ n := by rw [Nat.pow_succ]; omega
  rw [e]; omega
theorem Sz.mul {n m : Nat} {x y : Int} (h : Sz n x) (g : Sz m y) : Sz (n + m) (x * y) := by
  unfold Sz at *
  rw [Int.natAbs_mul, Nat.pow_add]
  exact Nat.mul_lt_mul'' h g
theorem Sz.sum {n : Nat} : ∀ {l : List Int}, Sms n l → Sz (n + l.length) l.sum
  | [], _ => by show Sz _ 0; unfold Sz; exact Nat.pow_pos (by decide)
  | x :: r, h => by
    have h1 := h x List.mem_cons_self
    have h2 := Sz.sum (l := r) fun y hy => h y (List.mem_cons_of_mem _ hy)
    rw [List.sum_cons, List.length_cons]
    exact (h1.mono (by omega)).add (n := n + r.length) h2
theorem dints_len (l : List Int) : (dints l).length = l.length := List.length_map ..
/-- a loop over enumerate: each turn goes on or leaves -/
theorem forD_enum {t : Tgt} {gb : GSt} {D : EndD} (I : StD → Prop) : ∀ (ds : List DL.D) (j : Nat), (∀ (i : Nat) (d : DL.D), ds[i]? = some d → ∀ (σ : StD) (D' : EndD), I σ → (∀ σ', I σ' → D'.nx σ') → D'.rt = D.rt → asg t (.tup [.int ((j + i : Nat) : Int), d]) σ fun σ2 => gb D' σ2) → ∀ σ, I σ → (∀ σ, I σ → D.nx σ) → forD t gb (enumD j ds) D σ
  | [], _, _, σ, i, e => e σ i
  | d :: r, j, h, σ, i, e => h 0 d rfl σ _ i (fun σ' i' => forD_enum I r (j + 1) (fun i d hd => by
      have := h (i + 1) d (by simpa using hd)
      rwa [show j + (i + 1) = j + 1 + i by omega] at this) σ' i' e) rfl
end DL
namespace DL
open PySem PySem.Spec PyProof.Rows L2
end DL
namespace DL
open PySem PySem.Spec PyProof.Rows L2
end DL
namespace DL
open PySem PySem.Spec PyProof.Rows L2
variable [TabC]
theorem dEqA_self {i : Int} {k : D → Prop} (q : k (.bl true)) : dEqA false (.int i) (.int i) k := by
  show k (.bl (i == i))
  rw [beq_self_eq_true]; exact q
/-- a written number below 2 ^ 200 divides -/
theorem divW {m : Int} (h : 0 < m) (h2 : decide (m < 2 ^ 200) = true) : DivOk m := DivOk.of (n := 200) (by omega) (by
  have h2 := of_decide_eq_true h2
  unfold Sz
  have : ((2 ^ 200 : Nat) : Int) = (2 : Int) ^ 200 := by rw [Int.natCast_pow]; rfl
  omega) (by decide)
end DL
namespace DL
open PySem PySem.Spec PyProof.Rows L2
/-! ### what an error tells -/
/-! ### cuts -/
/-! ### data of one and two storeys -/
end DL
namespace DL
open PySem PySem.Spec PyProof.Rows L2
end DL
/-! DJ4 -/
set_option Elab.async false
set_option linter.all false
set_option maxRecDepth 100000
set_option maxHeartbeats 4000000
/-! _law_whys(..), as data. -/
namespace DL
open PySem PySem.Spec PyProof.Rows L2
variable [TabC]
def tellO (c : Str) (y : D) : D := if c == "told" then .str "told" else .tup [.str c, y]
def ansL (A : LamO → (Str → D → Prop) → Prop) : List LamO → List D → (D → Prop) → Prop
  | [], acc, k => k (.lst acc)
  | o :: os, acc, k => A o fun c y => ansL A os (acc ++ [tellO c y]) k
/-! ### where a lambda stands -/
end DL
/-! DJ5 -/
set_option Elab.async false
set_option linter.all false
set_option maxRecDepth 100000
set_option maxHeartbeats 4000000
/-! int op own, as data -/
namespace DL
open PySem PySem.W PySem.Calls PyProof.Rows
end DL
namespace DL
open PySem PySem.Spec PyProof.Rows L2
variable [TabC]
section
variable {X : Cx} {b : Option Addr} {H0 : Hp} {E : XK} {eo : XD → Prop} {s : GS} {k : Nat} {f : Addr} {fd : FuncData} {ps : List Str} {c : Str} {pos : Pos} {a e : Expr} {ga gb : GE}
/-- i op y, y of the class c -/
def gOwnR (c : Str) (s : GS) (eo : XD → Prop) (ga gb : GE) : GE := fun σ k => ga σ fun x => gb σ fun y => match x, y with
  | .int i, .ins c' ns ds => c' = c ∧ s [.ins c' ns ds, .int i] k eo
  | _, _ => False
end
end DL
/-! DP2 -/
set_option Elab.async false
set_option linter.all false
set_option maxRecDepth 100000
set_option maxHeartbeats 4000000
/-! More plain lemmas. -/
namespace DL
open PySem PySem.Spec PyProof.Rows L2
variable [TabC]
/-- a comprehension with a test -/
theorem lcD_fil {α : Type} {t : Tgt} {gt : GT} {ge : GE} {σ : StD} (g f : α → D) (p : α → Bool) {l : List α} {acc : List D} {k : D → Prop} (h : ∀ x ∈ l, ∀ (kk : D → Prop) (ko : Prop), (p x = true → kk (f x)) → (p x = false → ko) → asg t (g x) σ fun σ2 => gt σ2 fun c => match c with | true => ge σ2 kk | false => ko)
    (hl : acc.length + l.length ≤ 1000000) (hk : k (.lst (acc ++ (l.filter p).map f))) : lcD t gt ge σ (l.map g) acc k := by
  induction l generalizing acc with
  | nil =>
    simp only [List.filter_nil, List.map_nil, List.append_nil] at hk
    exact hk
  | cons d r ih =>
    have ih' := fun acc => ih (acc := acc) (fun d' hd' => h d' (List.mem_cons_of_mem _ hd'))
    simp only [List.length_cons] at hl
    refine h d List.mem_cons_self (fun y => acc.length < 1000000 ∧ lcD t gt ge σ (r.map g) (acc ++ [y]) k) _ (fun e => ⟨by omega, ?_⟩) (fun e => ?_)
    · refine ih' _ (by simp only [List.length_append, List.length_cons, List.length_nil]; omega) ?_
      rw [List.filter_cons, if_pos e] at hk
      simpa using hk
    · refine ih' _ (by omega) ?_
      rw [List.filter_cons, if_neg (by rw [e]; exact Bool.false_ne_true)] at hk
      exact hk
/-- small written numbers -/
theorem szW {n : Nat} {i : Int} (h : decide (i.natAbs < 2 ^ n) = true) : Sz n i := by unfold Sz; exact of_decide_eq_true h
/-! ### texts of numbers -/
theorem str_len2 (a b : Str) : (a ++ b).length = a.length + b.length := by
  show (a.cps ++ b.cps).size = _
  rw [Array.size_append]; rfl
theorem szLog {n : Nat} {i : Int} (h : Sz n i) (hn : n ≤ 1920 := by decide) (hp : 0 < n := by decide) : i.natAbs.log2 < 1920 := by
  unfold Sz at h
  rcases Nat.eq_zero_or_pos i.natAbs with z | z
  · rw [z]; decide
  · exact Nat.lt_of_lt_of_le ((Nat.log2_lt (by omega)).mpr h) hn
end DL
/-! DJ6 -/
set_option Elab.async false
set_option linter.all false
set_option maxRecDepth 100000
set_option maxHeartbeats 4000000
/-! bool(own), abs(own) at the library's level -/
namespace DL
open PySem PySem.W PySem.Calls PyProof.Rows Builtin
end DL
namespace DL
open PySem PySem.Spec PyProof.Rows L2
variable [TabC]
section
variable {X : Cx} {b : Option Addr} {H0 : Hp} {E : XK} {eo : XD → Prop} {s : GS} {k : Nat} {f : Addr} {fd : FuncData} {ps : List Str} {c : Str} {p pos : Pos} {a e : Expr} {ga gb : GE} {cls : List Str}
def gOwnB (c : Str) (s : GS) (eo : XD → Prop) (ga : GE) : GE := fun σ k => gOwn1 c s eo ga σ fun d => match d with | .bl r => k (.bl r) | _ => False
/-! ### own == anything -/
/-- the right side of own == y -/
def rhsD (c : Str) : D → Bool
  | .ins c' _ _ => c' == c
  | .bag => false | .clo _ => false | .exc _ _ _ => false | .cel _ => false | _ => true
def gOwnE (c : Str) (s : GS) (eo : XD → Prop) (ga gb : GE) : GE := fun σ k => ga σ fun x => gb σ fun y => match x with
  | .ins c' ns ds => c' = c ∧ rhsD c y = true ∧ s [.ins c' ns ds, y] k eo
  | _ => False
def gOwnEN (c : Str) (s : GS) (eo : XD → Prop) (ga gb : GE) : GE := fun σ k => gOwnE c s eo ga gb σ fun d => match d with | .bl r => k (.bl (!r)) | _ => False
end
end DL
/-! DJ7 -/
set_option Elab.async false
set_option linter.all false
set_option maxRecDepth 100000
set_option maxHeartbeats 4000000
/-! staticmethods; defs at any address told by the head. -/
namespace DL
open PySem PySem.Spec PyProof.Rows L2
end DL
namespace DL
open PySem PySem.Spec PyProof.Rows L2
/-! ### properties -/
end DL
/-! DV -/
set_option Elab.async false
set_option linter.all false
set_option maxRecDepth 100000
set_option maxHeartbeats 4000000
/-! What a reading comes to: one value. -/
namespace DL
open PySem PySem.Spec PyProof.Rows L2
variable [TabC]
structure Stp (P : Prop) : Prop where
  run : P
structure Ev (g : GE) (σ : StD) (d : D) : Prop where
  run : ∀ k : D → Prop, k d → g σ k
instance {g : GE} {σ : StD} {d : D} : CoeFun (Ev g σ d) (fun _ => ∀ k : D → Prop, k d → g σ k) := ⟨Ev.run⟩
structure EvT (t : GT) (σ : StD) (c : Bool) : Prop where
  run : ∀ k : Bool → Prop, k c → t σ k
instance {t : GT} {σ : StD} {c : Bool} : CoeFun (EvT t σ c) (fun _ => ∀ k : Bool → Prop, k c → t σ k) := ⟨EvT.run⟩
structure EvA (g : GA) (σ : StD) (ds : List D) : Prop where
  run : ∀ k : List D → Prop, k ds → g σ k
instance {g : GA} {σ : StD} {ds : List D} : CoeFun (EvA g σ ds) (fun _ => ∀ k : List D → Prop, k ds → g σ k) := ⟨EvA.run⟩
structure EvI (g : GI) (σ : StD) (ds : List D) : Prop where
  run : ∀ k : List D → Prop, k ds → g σ k
instance {g : GI} {σ : StD} {ds : List D} : CoeFun (EvI g σ ds) (fun _ => ∀ k : List D → Prop, k ds → g σ k) := ⟨EvI.run⟩
structure EvP (g : StD → (Option Int → Prop) → Prop) (σ : StD) (o : Option Int) : Prop where
  run : ∀ k : Option Int → Prop, k o → g σ k
instance {g : StD → (Option Int → Prop) → Prop} {σ : StD} {o : Option Int} : CoeFun (EvP g σ o) (fun _ => ∀ k : Option Int → Prop, k o → g σ k) := ⟨EvP.run⟩
structure O1 (rd : D → (D → Prop) → Prop) (x z : D) : Prop where
  run : ∀ k : D → Prop, k z → rd x k
instance {rd : D → (D → Prop) → Prop} {x z : D} : CoeFun (O1 rd x z) (fun _ => ∀ k : D → Prop, k z → rd x k) := ⟨O1.run⟩
structure O2 (rd : D → D → (D → Prop) → Prop) (x y z : D) : Prop where
  run : ∀ k : D → Prop, k z → rd x y k
instance {rd : D → D → (D → Prop) → Prop} {x y z : D} : CoeFun (O2 rd x y z) (fun _ => ∀ k : D → Prop, k z → rd x y k) := ⟨O2.run⟩
structure ON (rd : List D → (D → Prop) → Prop) (ds : List D) (z : D) : Prop where
  run : ∀ k : D → Prop, k z → rd ds k
instance {rd : List D → (D → Prop) → Prop} {ds : List D} {z : D} : CoeFun (ON rd ds z) (fun _ => ∀ k : D → Prop, k z → rd ds k) := ⟨ON.run⟩
/-- a def, asked with ds, tells d; lets out x -/
structure SR (s : GS) (ds : List D) (d : D) : Prop where
  run : ∀ (k : D → Prop) (e : XD → Prop), k d → s ds k e
instance {s : GS} {ds : List D} {d : D} : CoeFun (SR s ds d) (fun _ => ∀ (k : D → Prop) (e : XD → Prop), k d → s ds k e) := ⟨SR.run⟩
structure SX (s : GS) (ds : List D) (x : XD) : Prop where
  run : ∀ (k : D → Prop) (e : XD → Prop), e x → s ds k e
instance {s : GS} {ds : List D} {x : XD} : CoeFun (SX s ds x) (fun _ => ∀ (k : D → Prop) (e : XD → Prop), e x → s ds k e) := ⟨SX.run⟩
structure SRI (s : GSI) (c : Str) (ds : List D) (ns : List Str) (fs : List D) : Prop where
  run : ∀ (k : List Str → List D → Prop) (e : XD → Prop), k ns fs → s c [] [] ds k e
instance {s : GSI} {c : Str} {ds : List D} {ns : List Str} {fs : List D} : CoeFun (SRI s c ds ns fs) (fun _ => ∀ (k : List Str → List D → Prop) (e : XD → Prop), k ns fs → s c [] [] ds k e) := ⟨SRI.run⟩
structure SXI (s : GSI) (c : Str) (ds : List D) (x : XD) : Prop where
  run : ∀ (k : List Str → List D → Prop) (e : XD → Prop), e x → s c [] [] ds k e
instance {s : GSI} {c : Str} {ds : List D} {x : XD} : CoeFun (SXI s c ds x) (fun _ => ∀ (k : List Str → List D → Prop) (e : XD → Prop), e x → s c [] [] ds k e) := ⟨SXI.run⟩
/-- the reading lets out x -/
structure EvX (eo : XD → Prop) (g : GE) (σ : StD) (x : XD) : Prop where
  run : ∀ k : D → Prop, eo x → g σ k
instance {eo : XD → Prop} {g : GE} {σ : StD} {x : XD} : CoeFun (EvX eo g σ x) (fun _ => ∀ k : D → Prop, eo x → g σ k) := ⟨EvX.run⟩
structure EvAX (eo : XD → Prop) (g : GA) (σ : StD) (x : XD) : Prop where
  run : ∀ k : List D → Prop, eo x → g σ k
instance {eo : XD → Prop} {g : GA} {σ : StD} {x : XD} : CoeFun (EvAX eo g σ x) (fun _ => ∀ k : List D → Prop, eo x → g σ k) := ⟨EvAX.run⟩
structure EvTX (eo : XD → Prop) (g : GT) (σ : StD) (x : XD) : Prop where
  run : ∀ k : Bool → Prop, eo x → g σ k
instance {eo : XD → Prop} {g : GT} {σ : StD} {x : XD} : CoeFun (EvTX eo g σ x) (fun _ => ∀ k : Bool → Prop, eo x → g σ k) := ⟨EvTX.run⟩
/-- an item bound, then read -/
structure AEv (t : Tgt) (d : D) (σ : StD) (ge : GE) (y : D) : Prop where
  run : ∀ k : D → Prop, k y → asg t d σ fun σ2 => ge σ2 k
instance {t : Tgt} {d : D} {σ : StD} {ge : GE} {y : D} : CoeFun (AEv t d σ ge y) (fun _ => ∀ k : D → Prop, k y → asg t d σ fun σ2 => ge σ2 k) := ⟨AEv.run⟩
section
variable {σ : StD} {d x y z : D} {ds es : List D} {ga gb ge g go : GE} {g1' g2' : GA} {t u : GT} {c a b : Bool} {eo : XD → Prop} {s : GS} {si : GSI}
/-! ### expressions -/
theorem ev_c : Ev (gC d) σ d := .mk fun _ q => q
theorem ev_var {i : Nat} (h : .sh d = look σ i) : Ev (gVar i) σ d := .mk fun k q => by unfold gVar; rw [← h]; exact q
theorem ev_varT {i : Nat} (h : .sh d = look σ i) : Ev (gVarT i) σ d := .mk fun k q => by unfold gVarT; rw [← h]; exact q
theorem ev_varO {i : Nat} (h : .own ds = look σ i) : Ev (gVarT i) σ (.lst ds) := .mk fun k q => by unfold gVarT; rw [← h]; exact q
theorem ev_g2 {rd : D → D → (D → Prop) → Prop} (A : Ev ga σ x) (B : Ev gb σ y) (h : O2 rd x y z) : Ev (g2 rd ga gb) σ z := .mk fun k q => A _ (B _ (h k q))
theorem ev_g1 {rd : D → (D → Prop) → Prop} (A : Ev ga σ x) (h : O1 rd x z) : Ev (g1 rd ga) σ z := .mk fun k q => A _ (h k q)
theorem ev_cl {rd : List D → (D → Prop) → Prop} (A : EvA g1' σ ds) (h : ON rd ds z) : Ev (gCl rd g1') σ z := .mk fun k q => A _ (h k q)
theorem eva_nil : EvA gNil σ [] := .mk fun _ q => q
theorem eva_cons (A : Ev ge σ d) (B : EvA g1' σ ds) : EvA (gCons ge g1') σ (d :: ds) := .mk fun k q => A _ (B _ q)
theorem eva_app (A : EvA g1' σ ds) (B : EvA g2' σ es) : EvA (gApp g1' g2') σ (ds ++ es) := .mk fun k q => A _ (B _ q)
/-- what is walked over, of a value -/
def ItR (x : D) (ds : List D) : Prop := x = .lst ds ∨ x = .tup ds
theorem itr_L : ItR (.lst ds) ds := .inl rfl
theorem itr_T : ItR (.tup ds) ds := .inr rfl
theorem eva_star (A : Ev ge σ x) (I : ItR x es) (B : EvA g1' σ ds) : EvA (gStar ge g1') σ (es ++ ds) := .mk fun k q => A _ (by rcases I with rfl | rfl <;> exact B _ q)
theorem eva_star1 (A : Ev ge σ x) (I : ItR x es) : EvA (gStar1 ge) σ es := .mk fun k q => A _ (by rcases I with rfl | rfl <;> exact q)
theorem ev_tup (A : EvA g1' σ ds) (h : ds.length ≤ 1000) : Ev (gTup g1') σ (.tup ds) := .mk fun k q => A _ ⟨h, q⟩
theorem ev_lst (A : EvA g1' σ ds) (h : ds.length ≤ 1000) : Ev (gLst g1') σ (.lst ds) := .mk fun k q => A _ ⟨h, q⟩
/-- what both ways come to -/
def Jn (c : Bool) (x y z : D) : Prop := (c = true → x = z) ∧ (c = false → y = z)
theorem jn_eq : Jn c x x x := ⟨fun _ => rfl, fun _ => rfl⟩
theorem jn_int {i j : Int} : Jn c (.int i) (.int j) (.int (bif c then i else j)) := ⟨fun e => by subst e; rfl, fun e => by subst e; rfl⟩
theorem jn_str {i j : Str} : Jn c (.str i) (.str j) (.str (bif c then i else j)) := ⟨fun e => by subst e; rfl, fun e => by subst e; rfl⟩
theorem jn_bl {i j : Bool} : Jn c (.bl i) (.bl j) (.bl (bif c then i else j)) := ⟨fun e => by subst e; rfl, fun e => by subst e; rfl⟩
theorem jn_tup {i j : List D} : Jn c (.tup i) (.tup j) (.tup (bif c then i else j)) := ⟨fun e => by subst e; rfl, fun e => by subst e; rfl⟩
theorem jn_lst {i j : List D} : Jn c (.lst i) (.lst j) (.lst (bif c then i else j)) := ⟨fun e => by subst e; rfl, fun e => by subst e; rfl⟩
theorem jn_any : Jn c x y (bif c then x else y) := ⟨fun e => by subst e; rfl, fun e => by subst e; rfl⟩
theorem ev_if (T : EvT t σ c) (A : c = true → Ev ga σ x) (B : c = false → Ev gb σ y) (J : Jn c x y z) : Ev (gIf t ga gb) σ z := .mk fun k q => T _ (by
  cases c with
  | true => exact A rfl k (by rw [J.1 rfl]; exact q)
  | false => exact B rfl k (by rw [J.2 rfl]; exact q))
theorem ev_ifT (T : EvT t σ c) (e : c = true) (A : Ev ga σ x) : Ev (gIf t ga gb) σ x := .mk fun k q => T _ (by subst e; exact A k q)
theorem ev_ifF (T : EvT t σ c) (e : c = false) (A : Ev gb σ x) : Ev (gIf t ga gb) σ x := .mk fun k q => T _ (by subst e; exact A k q)
theorem ev_isi {cls : List Str} {sub : Str → Str → Bool} {ks : List KC} (A : Ev ge σ d) (h : askD cls d = true) : Ev (gIsi cls sub ks ge) σ (.bl (isAny sub ks d)) := .mk fun k q => A _ ⟨h, q⟩
theorem ev_isN {neg : Bool} (A : Ev ge σ x) (h : O1 (dIsN neg) x z) : Ev (gIsN neg ge) σ z := .mk fun k q => A _ (h k q)
theorem ev_fld {C : Str} {NS : List Str} {i : Nat} (A : Ev ge σ (.ins C NS ds)) (h : some d = ds[i]?) : Ev (gFld C NS i ge) σ d := .mk fun k q => A _ ⟨rfl, rfl, by rw [← h]; exact q⟩
theorem ev_ca (A : EvA g1' σ ds) (h : SR s ds d) : Ev (gCa s eo g1') σ d := .mk fun k q => A _ (h _ _ q)
theorem ev_mc {C m : Str} {ns : List Str} (A : Ev go σ (.ins C ns ds)) (hm : m ∉ ns) (B : EvA g1' σ es) (h : SR s (.ins C ns ds :: es) d) : Ev (gMc C m s eo go g1') σ d := .mk fun k q => A _ ⟨rfl, hm, B _ (h _ _ q)⟩
theorem ev_mk {C : Str} {ns : List Str} {fs : List D} (A : EvA g1' σ ds) (h : SRI si C ds ns fs) : Ev (gMk C si eo g1') σ (.ins C ns fs) := .mk fun k q => A _ (h _ _ q)
theorem ev_own1 {C : Str} {ns : List Str} (A : Ev ga σ (.ins C ns ds)) (h : SR s [.ins C ns ds] d) : Ev (gOwn1 C s eo ga) σ d := .mk fun k q => A _ ⟨rfl, h _ _ q⟩
def OW2 (C : Str) (s : GS) (x y d : D) : Prop := (∃ ns ds ns2 es, x = .ins C ns ds ∧ y = .ins C ns2 es ∧ SR s [x, y] d) ∨ ∃ ns ds i, x = .ins C ns ds ∧ y = .int i ∧ SR s [x, y] d
theorem ow2_own {C : Str} {ns ns2 : List Str} (h : SR s [.ins C ns ds, .ins C ns2 es] d) : OW2 C s (.ins C ns ds) (.ins C ns2 es) d := .inl ⟨_, _, _, _, rfl, rfl, h⟩
theorem ow2_int {C : Str} {ns : List Str} {i : Int} (h : SR s [.ins C ns ds, .int i] d) : OW2 C s (.ins C ns ds) (.int i) d := .inr ⟨_, _, _, rfl, rfl, h⟩
theorem ev_own2 {C : Str} (A : Ev ga σ x) (B : Ev gb σ y) (h : OW2 C s x y d) : Ev (gOwn2 C s eo ga gb) σ d := .mk fun k q => A _ (B _ (by
  rcases h with ⟨ns, ds, ns2, es, rfl, rfl, h⟩ | ⟨ns, ds, i, rfl, rfl, h⟩
  · exact ⟨rfl, rfl, h _ _ q⟩
  · exact ⟨rfl, h _ _ q⟩))
theorem ev_ownR {C : Str} {ns : List Str} {i : Int} (A : Ev ga σ (.int i)) (B : Ev gb σ (.ins C ns ds)) (h : SR s [.ins C ns ds, .int i] d) : Ev (gOwnR C s eo ga gb) σ d := .mk fun k q => A _ (B _ ⟨rfl, h _ _ q⟩)
theorem ev_ownQ {C : Str} {ns ns2 : List Str} (A : Ev ga σ (.ins C ns ds)) (B : Ev gb σ (.ins C ns2 es)) (h : SR s [.ins C ns ds, .ins C ns2 es] d) : Ev (gOwnQ C s eo ga gb) σ d := .mk fun k q => A _ (B _ ⟨rfl, rfl, h _ _ q⟩)
theorem ev_ownN {C : Str} {ns ns2 : List Str} (A : Ev ga σ (.ins C ns ds)) (B : Ev gb σ (.ins C ns2 es)) (h : SR s [.ins C ns ds, .ins C ns2 es] (.bl c)) : Ev (gOwnN C s eo ga gb) σ (.bl (!c)) := .mk fun k q => ev_ownQ A B h _ q
theorem ev_ownE {C : Str} {ns : List Str} (A : Ev ga σ (.ins C ns ds)) (B : Ev gb σ y) (hr : rhsD C y = true) (h : SR s [.ins C ns ds, y] d) : Ev (gOwnE C s eo ga gb) σ d := .mk fun k q => A _ (B _ ⟨rfl, hr, h _ _ q⟩)
theorem ev_ownEN {C : Str} {ns : List Str} (A : Ev ga σ (.ins C ns ds)) (B : Ev gb σ y) (hr : rhsD C y = true) (h : SR s [.ins C ns ds, y] (.bl c)) : Ev (gOwnEN C s eo ga gb) σ (.bl (!c)) := .mk fun k q => ev_ownE A B hr h _ q
theorem ev_ownS {C r : Str} {ns : List Str} (A : Ev ga σ (.ins C ns ds)) (h : SR s [.ins C ns ds] (.str r)) : Ev (gOwnS C s eo ga) σ (.str r) := .mk fun k q => ev_own1 A h _ q
theorem ev_ownB {C : Str} {ns : List Str} (A : Ev ga σ (.ins C ns ds)) (h : SR s [.ins C ns ds] (.bl c)) : Ev (gOwnB C s eo ga) σ (.bl c) := .mk fun k q => ev_own1 A h _ q
theorem ev_join {p : Str} {ys : List Str} (A : Ev ga σ (.str p)) (B : Ev gb σ (.lst ds)) (h : some ys = strsOf ds) (hl : (ys.map (·.length)).sum + ys.length * p.length ≤ 1000000) : Ev (gJoin ga gb) σ (.str (Txt.join p ys)) := .mk fun k q => A _ (B _ (by
  show match strsOf ds with | some ys => _ | none => False
  rw [← h]; exact ⟨hl, q⟩))
theorem ev_jsN {acc : Str} : Ev (gJs [] acc) σ (.str acc) := .mk fun k q => q
theorem ev_js {gs : List GE} {acc p : Str} (A : Ev ge σ (.str p)) (hl : (acc ++ p).length ≤ 1000000) (B : Ev (gJs gs (acc ++ p)) σ d) : Ev (gJs (ge :: gs) acc) σ d := .mk fun k q => A _ ⟨hl, B k q⟩
def FmR (x z : D) : Prop := ∃ p : Str, z = .str p ∧ ((x = .str p ∧ p.length ≤ 1000000) ∨ ∃ i : Int, x = .int i ∧ i.natAbs.log2 < 1920 ∧ p = (toString i : String))
theorem fm_S {p : Str} (h : p.length ≤ 1000000) : FmR (.str p) (.str p) := ⟨_, rfl, .inl ⟨rfl, h⟩⟩
theorem fm_I {i : Int} (h : i.natAbs.log2 < 1920) : FmR (.int i) (.str (toString i : String)) := ⟨_, rfl, .inr ⟨_, rfl, h, rfl⟩⟩
theorem ev_fmt (A : Ev ge σ x) (h : FmR x z) : Ev (gFmt ge) σ z := .mk fun k q => A _ (by
  obtain ⟨p, rfl, ⟨rfl, h⟩ | ⟨i, rfl, h, rfl⟩⟩ := h
  · exact ⟨h, q⟩
  · exact ⟨h, q⟩)
theorem evp_no : EvP gNoP σ none := .mk fun _ q => q
theorem evp_part {i : Int} (A : Ev ge σ (.int i)) : EvP (gPart ge) σ (some i) := .mk fun _ q => A _ q
def SlR (x : D) (lo hi : Option Int) (z : D) : Prop := (∃ ds, x = .lst ds ∧ z = .lst (cutD ds lo hi)) ∨ (∃ ds, x = .tup ds ∧ z = .tup (cutD ds lo hi)) ∨ ∃ p : Str, x = .str p ∧ p.length ≤ 1000000 ∧ z = .str (cutS p lo hi)
theorem sl_L {lo hi : Option Int} : SlR (.lst ds) lo hi (.lst (cutD ds lo hi)) := .inl ⟨_, rfl, rfl⟩
theorem sl_T {lo hi : Option Int} : SlR (.tup ds) lo hi (.tup (cutD ds lo hi)) := .inr (.inl ⟨_, rfl, rfl⟩)
theorem sl_S {lo hi : Option Int} {p : Str} (h : p.length ≤ 1000000) : SlR (.str p) lo hi (.str (cutS p lo hi)) := .inr (.inr ⟨_, rfl, h, rfl⟩)
theorem ev_sl {gl gh : StD → (Option Int → Prop) → Prop} {lo hi : Option Int} (A : Ev ge σ x) (L : EvP gl σ lo) (R : EvP gh σ hi) (h : SlR x lo hi z) : Ev (gSlA ge gl gh) σ z := .mk fun k q => A _ (L _ (R _ (by
  rcases h with ⟨ds, rfl, rfl⟩ | ⟨ds, rfl, rfl⟩ | ⟨p, rfl, h, rfl⟩
  · exact q
  · exact q
  · exact ⟨h, q⟩)))
theorem ev_andV (A : Ev ga σ (.bl a)) (B : a = true → Ev gb σ (.bl b)) : Ev (gAndV ga gb) σ (.bl (a && b)) := .mk fun k q => A _ (by cases a with | true => exact B rfl k q | false => exact q)
theorem ev_orV (A : Ev ga σ (.bl a)) (B : a = false → Ev gb σ (.bl b)) : Ev (gOrV ga gb) σ (.bl (a || b)) := .mk fun k q => A _ (by cases a with | true => exact q | false => exact B rfl k q)
theorem ev_notV (A : Ev ga σ (.bl a)) : Ev (gNotV ga) σ (.bl (!a)) := .mk fun k q => A _ q
theorem ev_chain {rd rd' : D → D → (D → Prop) → Prop} {w : D} {gc : GE} (A : Ev ga σ x) (B : Ev gb σ y) (h : O2 rd x y (.bl a)) (C : a = true → Ev gc σ w) (h2 : a = true → O2 rd' y w (.bl b)) : Ev (gChain rd rd' ga gb gc) σ (.bl (a && b)) := .mk fun k q => A _ (B _ (h _ (by
  cases a with
  | true => exact C rfl _ (h2 rfl k q)
  | false => exact q)))
theorem sr_shp {n : Nat} {ix : List Nat} {dd : List D} (h : SR s es d) (e : es = pick ix (ds ++ dd)) (hl : ds.length = n) : SR (shp n ix dd s) ds d := .mk fun k eo q => ⟨hl, by rw [← e]; exact h _ _ q⟩
theorem sri_shp {C : Str} {n : Nat} {ix : List Nat} {dd fs : List D} {ns : List Str} (h : SRI si C es ns fs) (e : es = pick ix (ds ++ dd)) (hl : ds.length = n) : SRI (shpI n ix dd si) C ds ns fs := .mk fun k eo q => ⟨hl, by rw [← e]; exact h _ _ q⟩
theorem mp_i {α β : Type} {ds : List β} {l : List α} {gg : α → β} (h : ds = l.map gg) : ds = l.map gg := h
theorem pk_i {α : Type} {es l : List α} {ix : List Nat} (h : es = pick ix l) : es = pick ix l := h
theorem sr_same {n : Nat} (e : x = y) (h : goodD y = true) (hd : dep y < n) : SR (sSame n) [x, y] (.bl true) := .mk fun k eo q => ⟨y, by rw [e], h, hd, q⟩
/-! ### what is let out -/
theorem o2_i {rd : D → D → (D → Prop) → Prop} (h : ∀ k : D → Prop, k z → rd x y k) : O2 rd x y z := ⟨h⟩
theorem o1_i {rd : D → (D → Prop) → Prop} (h : ∀ k : D → Prop, k z → rd x k) : O1 rd x z := ⟨h⟩
theorem on_i {rd : List D → (D → Prop) → Prop} (h : ∀ k : D → Prop, k z → rd ds k) : ON rd ds z := ⟨h⟩
theorem o_eqI {i j : Int} : O2 (dEqA false) (.int i) (.int j) (.bl (i == j)) := .mk fun k q => q
theorem o_neI {i j : Int} : O2 (dEqA true) (.int i) (.int j) (.bl (!(i == j))) := .mk fun k q => q
theorem o_eqS {i j : Str} : O2 (dEqA false) (.str i) (.str j) (.bl (i == j)) := .mk fun k q => q
theorem o_neS {i j : Str} : O2 (dEqA true) (.str i) (.str j) (.bl (!(i == j))) := .mk fun k q => q
theorem o_eqB {i j : Bool} : O2 (dEqA false) (.bl i) (.bl j) (.bl (i == j)) := .mk fun k q => q
theorem o_neB {i j : Bool} : O2 (dEqA true) (.bl i) (.bl j) (.bl (!(i == j))) := .mk fun k q => q
theorem o_all {α : Type} {f : α → Bool} {l : List α} : O1 dAll (.lst (l.map fun w => D.bl (f w))) (.bl (l.all f)) := .mk fun k q => dAll_bls q
theorem o_eqT2 {a b c d : Int} : O2 (dEqA false) (.tup [.int a, .int b]) (.tup [.int c, .int d]) (.bl ([a, b] == [c, d])) := .mk fun k q => dEqA_tints (l := [a, b]) (m := [c, d]) q
theorem o_neT2 {a b c d : Int} : O2 (dEqA true) (.tup [.int a, .int b]) (.tup [.int c, .int d]) (.bl (!([a, b] == [c, d]))) := .mk fun k q => dEqA_tints (l := [a, b]) (m := [c, d]) q
/-! ### tests -/
theorem evt_B (A : Ev ge σ (.bl c)) : EvT (gB ge) σ c := .mk fun k q => A _ q
theorem evt_and (A : EvT t σ a) (B : a = true → EvT u σ b) : EvT (gAnd t u) σ (a && b) := .mk fun k q => A _ (by cases a with | true => exact B rfl k q | false => exact q)
theorem evt_or (A : EvT t σ a) (B : a = false → EvT u σ b) : EvT (gOr t u) σ (a || b) := .mk fun k q => A _ (by cases a with | true => exact q | false => exact B rfl k q)
theorem evt_not (A : EvT t σ a) : EvT (gNot t) σ (!a) := .mk fun k q => A _ q
theorem evt_yes : EvT gYes σ true := .mk fun _ q => q
/-! ### what is walked over -/
theorem evi_it (A : Ev ge σ x) (I : ItR x ds) : EvI (gIt ge) σ ds := .mk fun _ q => A _ (by rcases I with rfl | rfl <;> exact q)
theorem evi_LL (A : Ev ge σ (.lst ds)) : EvI (gItL ge) σ ds := .mk fun _ q => A _ q
theorem evi_TT (A : Ev ge σ (.tup ds)) : EvI (gItT ge) σ ds := .mk fun _ q => A _ q
theorem evi_S {p : Str} (A : Ev ge σ (.str p)) : EvI (gItS ge) σ (signs p) := .mk fun _ q => A _ q
theorem evi_rng {j : Int} (A : Ev ge σ (.int j)) (h : -(2 ^ 62) ≤ j ∧ j < 2 ^ 62) : EvI (gRng1 ge) σ (rngD 0 j.toNat) := .mk fun _ q => A _ ⟨h, q⟩
theorem evi_rng2 {i j : Int} (A : Ev ga σ (.int i)) (B : Ev gb σ (.int j)) (h : -(2 ^ 62) ≤ i ∧ i < 2 ^ 62 ∧ -(2 ^ 62) ≤ j ∧ j < 2 ^ 62) : EvI (gRng2 ga gb) σ (rngD i (j - i).toNat) := .mk fun _ q => A _ (B _ ⟨h, q⟩)
theorem evi_zip (A : Ev ga σ x) (I : ItR x ds) (B : Ev gb σ y) (J : ItR y es) : EvI (gZipA ga gb) σ (pairsD ds es) := .mk fun _ q => A _ (B _ (by rcases I with rfl | rfl <;> rcases J with rfl | rfl <;> exact q))
theorem evi_en (A : Ev ga σ x) (I : ItR x ds) : EvI (gEnum ga) σ (enumD 0 ds) := .mk fun _ q => A _ (by rcases I with rfl | rfl <;> exact q)
theorem EvI.eq {gi : GI} (h : EvI gi σ ds) (e : ds = es) : EvI gi σ es := e ▸ h
theorem Ev.eq (h : Ev ge σ x) (e : x = y) : Ev ge σ y := e ▸ h
theorem EvT.eq (h : EvT t σ a) (e : a = b) : EvT t σ b := e ▸ h
/-! ### comprehensions -/
theorem aev1 {i : Nat} (A : Ev ge (put σ i (.sh d)) y) : AEv (.nm i) d σ ge y := .mk fun k q => A k q
theorem aev2 {i j : Nat} (A : Ev ge (put (put σ i (.sh d)) j (.sh x)) y) : AEv (.tp [.nm i, .nm j]) (.tup [d, x]) σ ge y := .mk fun k q => A k q
theorem aev3 {i j l : Nat} (A : Ev ge (put (put (put σ i (.sh d)) j (.sh x)) l (.sh z)) y) : AEv (.tp [.nm i, .nm j, .nm l]) (.tup [d, x, z]) σ ge y := .mk fun k q => A k q
/-- an item bound, tested, then read -/
structure AEvF (tg : Tgt) (d : D) (σ : StD) (t : GT) (ge : GE) (c : Bool) (y : D) : Prop where
  run : ∀ (kk : D → Prop) (ko : Prop), (c = true → kk y) → (c = false → ko) → asg tg d σ fun σ2 => t σ2 fun x => match x with | true => ge σ2 kk | false => ko
instance {tg : Tgt} {d : D} {σ : StD} {t : GT} {ge : GE} {c : Bool} {y : D} : CoeFun (AEvF tg d σ t ge c y) (fun _ => ∀ (kk : D → Prop) (ko : Prop), (c = true → kk y) → (c = false → ko) → asg tg d σ fun σ2 => t σ2 fun x => match x with | true => ge σ2 kk | false => ko) := ⟨AEvF.run⟩
theorem evf_of {kk : D → Prop} {ko : Prop} (T : EvT t σ c) (A : c = true → Ev ge σ y) (h1 : c = true → kk y) (h2 : c = false → ko) : t σ fun x => match x with | true => ge σ kk | false => ko := T _ (by
  cases c with
  | true => exact A rfl kk (h1 rfl)
  | false => exact h2 rfl)
theorem aevf1 {i : Nat} (T : EvT t (put σ i (.sh d)) c) (A : c = true → Ev ge (put σ i (.sh d)) y) : AEvF (.nm i) d σ t ge c y := .mk fun kk ko h1 h2 => evf_of T A h1 h2
theorem aevf2 {i j : Nat} (T : EvT t (put (put σ i (.sh d)) j (.sh x)) c) (A : c = true → Ev ge (put (put σ i (.sh d)) j (.sh x)) y) : AEvF (.tp [.nm i, .nm j]) (.tup [d, x]) σ t ge c y := .mk fun kk ko h1 h2 => evf_of T A h1 h2
theorem aevf3 {i j l : Nat} (T : EvT t (put (put (put σ i (.sh d)) j (.sh x)) l (.sh z)) c) (A : c = true → Ev ge (put (put (put σ i (.sh d)) j (.sh x)) l (.sh z)) y) : AEvF (.tp [.nm i, .nm j, .nm l]) (.tup [d, x, z]) σ t ge c y := .mk fun kk ko h1 h2 => evf_of T A h1 h2
theorem ev_lc {α : Type} {gi : GI} {tg : Tgt} {vs : List Nat} {l : List α} {gg f : α → D} (I : EvI gi σ ds) (e : ds = l.map gg) (h : ∀ w ∈ l, AEv tg (gg w) (wipeD σ vs) ge (f w)) (hl : l.length ≤ 1000000) : Ev (gLc gi tg gYes ge vs) σ (.lst (l.map f)) := .mk fun k q => I _ (by
  subst e
  exact lcD_mapL gg f (fun w hw kk hkk => h w hw kk hkk) (by rw [List.length_nil]; omega) q)
theorem ev_lcF {α : Type} {gi : GI} {tg : Tgt} {vs : List Nat} {l : List α} {gg f : α → D} {p : α → Bool} (I : EvI gi σ ds) (e : ds = l.map gg) (h : ∀ w ∈ l, AEvF tg (gg w) (wipeD σ vs) t ge (p w) (f w)) (hl : l.length ≤ 1000000) : Ev (gLc gi tg t ge vs) σ (.lst ((l.filter p).map f)) := .mk fun k q => I _ (by
  subst e
  exact lcD_fil gg f p (fun w hw kk ko z1 z2 => h w hw kk ko z1 z2) (by rw [List.length_nil]; omega) q)
/-! ### states laid out -/
structure Pt (σ : StD) (i : Nat) (x : SD) (τ : StD) : Prop where
  eq : put σ i x = τ
theorem pt0 {y x : SD} {r : StD} : Pt (y :: r) 0 x (x :: r) := ⟨rfl⟩
theorem pts {y x : SD} {r r' : StD} {n : Nat} (h : Pt r n x r') : Pt (y :: r) (n + 1) x (y :: r') := ⟨by show y :: put r n x = _; rw [h.eq]⟩
structure NS (σ τ : StD) : Prop where
  eq : σ = τ
theorem ns_put {σ τ τ' : StD} {i : Nat} {x : SD} (h : NS σ τ) (p : Pt τ i x τ') : NS (put σ i x) τ' := ⟨by rw [h.eq, p.eq]⟩
theorem ns_wipe {σ τ τ' : StD} {q : Str} {v : Nat} {r : List (Str × Nat)} (h : NS (wipeD σ (r.map fun x => x.2)) τ) (p : Pt τ v .unset τ') : NS (wipeD σ (((q, v) :: r).map fun x => x.2)) τ' := ⟨by show put (wipeD σ (r.map fun x => x.2)) v .unset = _; rw [h.eq, p.eq]⟩
theorem ns_wipe0 {σ τ : StD} (h : NS σ τ) : NS (wipeD σ (([] : List (Str × Nat)).map fun x => x.2)) τ := ⟨h.eq⟩
theorem ns_id {σ : StD} : NS σ σ := ⟨rfl⟩
theorem n_st {v : GSt} {D' : EndD} {σ τ : StD} (n : NS σ τ) (h : Stp (v D' τ)) : Stp (v D' σ) := ⟨by rw [n.eq]; exact h.run⟩
/-! ### statements -/
section
variable {v w u' : GSt} {D' : EndD} {i j l n : Nat}
theorem as1 {i : Nat} {k : StD → Prop} {τ : StD} {ρ : StD} (N : NS ρ σ) (p : Pt σ i (.sh d) τ) (h : Stp (k τ)) : Stp (asg (.nm i) d ρ k) := ⟨by rw [N.eq]; show k (put σ i (.sh d)); rw [p.eq]; exact h.run⟩
theorem as2 {i j : Nat} {k : StD → Prop} {τ τ2 : StD} {ρ : StD} (N : NS ρ σ) (p : Pt σ i (.sh x) τ) (p2 : Pt τ j (.sh y) τ2) (h : Stp (k τ2)) : Stp (asg (.tp [.nm i, .nm j]) (.tup [x, y]) ρ k) := ⟨by rw [N.eq]; show k (put (put σ i (.sh x)) j (.sh y)); rw [p.eq, p2.eq]; exact h.run⟩
theorem as3 {i j l : Nat} {k : StD → Prop} {τ τ2 τ3 : StD} {ρ : StD} (N : NS ρ σ) (p : Pt σ i (.sh x) τ) (p2 : Pt τ j (.sh y) τ2) (p3 : Pt τ2 l (.sh z) τ3) (h : Stp (k τ3)) : Stp (asg (.tp [.nm i, .nm j, .nm l]) (.tup [x, y, z]) ρ k) := ⟨by rw [N.eq]; show k (put (put (put σ i (.sh x)) j (.sh y)) l (.sh z)); rw [p.eq, p2.eq, p3.eq]; exact h.run⟩
theorem as2l {i j : Nat} {k : StD → Prop} {τ τ2 : StD} {ρ : StD} (N : NS ρ σ) (p : Pt σ i (.sh x) τ) (p2 : Pt τ j (.sh y) τ2) (h : Stp (k τ2)) : Stp (asg (.tp [.nm i, .nm j]) (.lst [x, y]) ρ k) := ⟨by rw [N.eq]; show k (put (put σ i (.sh x)) j (.sh y)); rw [p.eq, p2.eq]; exact h.run⟩
theorem as3l {i j l : Nat} {k : StD → Prop} {τ τ2 τ3 : StD} {ρ : StD} (N : NS ρ σ) (p : Pt σ i (.sh x) τ) (p2 : Pt τ j (.sh y) τ2) (p3 : Pt τ2 l (.sh z) τ3) (h : Stp (k τ3)) : Stp (asg (.tp [.nm i, .nm j, .nm l]) (.lst [x, y, z]) ρ k) := ⟨by rw [N.eq]; show k (put (put (put σ i (.sh x)) j (.sh y)) l (.sh z)); rw [p.eq, p2.eq, p3.eq]; exact h.run⟩
theorem nx_mk {f : StD → Prop} {r : D → Prop} {b c : StD → Prop} (h : Stp (f σ)) : Stp (EndD.nx ⟨f, r, b, c⟩ σ) := ⟨h.run⟩
theorem s_asg (A : Ev ge σ d) {τ : StD} (p : Pt σ i (.sh d) τ) (r : Stp (v D' τ)) : Stp (gSeq (gAsg i ge) v D' σ) := ⟨A _ (by show v D' (put σ i (.sh d)); rw [p.eq]; exact r.run)⟩
theorem s_asgL (A : Ev ge σ d) {τ : StD} (p : Pt σ i (.sh d) τ) (r : Stp (D'.nx τ)) : Stp (gAsg i ge D' σ) := ⟨A _ (by rw [p.eq]; exact r.run)⟩
theorem s_ifT (T : EvT t σ c) (e : c = true) (A : Stp (v { D' with nx := u' D' } σ)) : Stp (gSeq (gIfS t v w) u' D' σ) := ⟨T _ (by subst e; exact A.run)⟩
theorem s_ifFN (T : EvT t σ c) (e : c = false) (B : Stp (u' D' σ)) : Stp (gSeq (gIfS t v gNext) u' D' σ) := ⟨T _ (by subst e; exact B.run)⟩
theorem s_ifLT (T : EvT t σ c) (e : c = true) (A : Stp (v D' σ)) : Stp (gIfS t v w D' σ) := ⟨T _ (by subst e; exact A.run)⟩
theorem s_ifLFN (T : EvT t σ c) (e : c = false) (B : Stp (D'.nx σ)) : Stp (gIfS t v gNext D' σ) := ⟨T _ (by subst e; exact B.run)⟩
theorem s_ret (A : Ev ge σ d) (r : Stp (D'.rt d)) : Stp (gRet ge D' σ) := ⟨A _ r.run⟩
theorem s_for {gi : GI} {tg : Tgt} (A : EvI gi σ ds) (r : Stp (forD tg v ds { D' with nx := u' D' } σ)) : Stp (gSeq (gFor gi tg v) u' D' σ) := ⟨A _ r.run⟩
end
/-! ### a walk with what it gathers -/
end
/-! ### draws, lambdas, what is asked -/
section
variable {σ : StD} {d x y z : D} {ds es : List D} {ge : GE} {g1' : GA} {eo : XD → Prop} {v : GSt} {D' : EndD} {i : Nat}
/-- what the asks come to -/
structure AnsR (A : LamO → (Str → D → Prop) → Prop) (os : List LamO) (acc rs : List D) : Prop where
  run : ∀ k : D → Prop, k (.lst rs) → ansL A os acc k
instance {A : LamO → (Str → D → Prop) → Prop} {os : List LamO} {acc rs : List D} : CoeFun (AnsR A os acc rs) (fun _ => ∀ k : D → Prop, k (.lst rs) → ansL A os acc k) := ⟨AnsR.run⟩
end
/-! ### step by step, where something is drawn -/
section
variable {σ : StD} {d x y z : D} {ds es : List D} {ga gb ge g go : GE} {g1' g2' : GA} {eo : XD → Prop} {v : GSt} {D' : EndD} {i j : Nat} {k : D → Prop} {ka : List D → Prop} {s : GS} {si : GSI}
theorem c_ev (A : Ev g σ d) (q : Stp (k d)) : Stp (g σ k) := ⟨A k q.run⟩
theorem c_asg (h : Stp (ge σ fun d => v D' (put σ i (.sh d)))) : Stp (gSeq (gAsg i ge) v D' σ) := ⟨h.run⟩
theorem c_tgt {t : Tgt} (h : Stp (ge σ fun d => asg t d σ (v D'))) : Stp (gSeq (gTgt t ge) v D' σ) := ⟨h.run⟩
theorem c_par (h : Stp (ga σ fun x => gb σ fun y => v D' (put (put σ i (.sh x)) j (.sh y)))) : Stp (gSeq (gPar i j ga gb) v D' σ) := ⟨h.run⟩
theorem c_nil (h : Stp (ka [])) : Stp (gNil σ ka) := ⟨h.run⟩
theorem c_cons (h : Stp (ge σ fun d => g1' σ fun ds => ka (d :: ds))) : Stp (gCons ge g1' σ ka) := ⟨h.run⟩
theorem c_app (h : Stp (g1' σ fun ds => g2' σ fun es => ka (ds ++ es))) : Stp (gApp g1' g2' σ ka) := ⟨h.run⟩
theorem c_tup (h : Stp (g1' σ fun ds => ds.length ≤ 1000 ∧ k (.tup ds))) : Stp (gTup g1' σ k) := ⟨h.run⟩
theorem c_lst (h : Stp (g1' σ fun ds => ds.length ≤ 1000 ∧ k (.lst ds))) : Stp (gLst g1' σ k) := ⟨h.run⟩
theorem c_g2 {rd : D → D → (D → Prop) → Prop} (h : Stp (ga σ fun x => gb σ fun y => rd x y k)) : Stp (g2 rd ga gb σ k) := ⟨h.run⟩
theorem c_g1 {rd : D → (D → Prop) → Prop} (h : Stp (ga σ fun x => rd x k)) : Stp (g1 rd ga σ k) := ⟨h.run⟩
theorem c_c (h : Stp (k d)) : Stp (gC d σ k) := ⟨h.run⟩
theorem c_var (e : .sh d = look σ i) (h : Stp (k d)) : Stp (gVar i σ k) := ⟨ev_var e k h.run⟩
theorem c_addI {a b : Int} (h : Stp (k (.int (a + b)))) : Stp (dAddB (.int a) (.int b) k) := ⟨h.run⟩
theorem c_subI {a b : Int} (h : Stp (k (.int (a - b)))) : Stp (dI0 (fun i j => .int (i - j)) (.int a) (.int b) k) := ⟨h.run⟩
theorem c_mulI {a b : Int} (m : MulOk a b) (h : Stp (k (.int (a * b)))) : Stp (dMulA (.int a) (.int b) k) := ⟨m, h.run⟩
theorem c_o2 {rd : D → D → (D → Prop) → Prop} (A : O2 rd x y z) (h : Stp (k z)) : Stp (rd x y k) := ⟨A k h.run⟩
theorem c_draw {gv : GE} {m : Int} (e : Ev gv σ .bag) (A : Ev ge σ (.int m)) (h0 : 0 < m) (hd : DivOk m) (h : ∀ n : Int, 0 ≤ n → n < m → Stp (k (.int n))) : Stp (gCa sDraw eo (gCons gv (gCons ge gNil)) σ k) := ⟨e _ (A _ ⟨m, rfl, h0, hd, fun n a b => (h n a b).run⟩)⟩
theorem c_ca (h : Stp (g1' σ fun ds => s ds k eo)) : Stp (gCa s eo g1' σ k) := ⟨h.run⟩
theorem c_mk {C : Str} (h : Stp (g1' σ fun ds => si C [] [] ds (fun ns fs => k (.ins C ns fs)) eo)) : Stp (gMk C si eo g1' σ k) := ⟨h.run⟩
theorem c_len {n : Nat} {p : Prop} (a : Nat.ble ds.length n = true) (h : Stp p) : Stp (ds.length ≤ n ∧ p) := ⟨Nat.le_of_ble_eq_true a, h.run⟩
theorem c_lt {n : Nat} {p : Prop} (a : Nat.blt ds.length n = true) (h : Stp p) : Stp (ds.length < n ∧ p) := ⟨Nat.le_of_ble_eq_true a, h.run⟩
theorem c_lc1 {t : Tgt} {r acc : List D} (h : Stp (asg t d σ fun σ2 => ge σ2 fun y => acc.length < 1000000 ∧ lcD t gYes ge σ r (acc ++ [y]) k)) : Stp (lcD t gYes ge σ (d :: r) acc k) := ⟨h.run⟩
theorem c_lc0 {t : Tgt} {gt : GT} {acc : List D} (h : Stp (k (.lst acc))) : Stp (lcD t gt ge σ [] acc k) := ⟨h.run⟩
/-- two rounds -/
theorem c_rng2 {t : Tgt} (h : Stp (lcD t gYes ge σ [.int 0, .int 1] [] k)) : Stp (lcD t gYes ge σ (rngD 0 (2 : Int).toNat) [] k) := ⟨h.run⟩
theorem c_rng3 {t : Tgt} (h : Stp (lcD t gYes ge σ [.int 0, .int 1, .int 2] [] k)) : Stp (lcD t gYes ge σ (rngD 0 (3 : Int).toNat) [] k) := ⟨h.run⟩
end
end DL
/-! DK1 -/
set_option Elab.async false
set_option linter.all false
set_option maxRecDepth 100000
set_option maxHeartbeats 4000000
/-! Texts: split, partition, the number that a text writes. -/
namespace DL
open PySem PySem.Spec PyProof.Rows L2
variable [TabC]
section
variable {X : Cx} {b : Option Addr} {H0 : Hp} {a c e : Expr} {ga gb ge : GE} {pos apos : Pos} {K : Fg}
def gTM (rd : Str → D → (D → Prop) → Prop) (ga gb : GE) : GE := fun σ k => ga σ fun x => match x with
  | .str s => gb σ fun y => rd s y k
  | _ => False
def dSplit : Str → D → (D → Prop) → Prop := fun x y k => match y with | .str z => ((z.length == 0) = false ∧ x.length ≤ 1000000) ∧ k (.lst ((Txt.split x z).map D.str)) | _ => False
def dPart : Str → D → (D → Prop) → Prop := fun x y k => match y with | .str z => ((z.length == 0) = false ∧ x.length ≤ 1000000) ∧ k (.tup [.str (Txt.partition x z).1, .str (Txt.partition x z).2.1, .str (Txt.partition x z).2.2]) | _ => False
def dIntS : D → (D → Prop) → Prop := fun x k => match x with | .str z => ∃ n, PySem.intText? z = some n ∧ z.length ≤ 640 ∧ k (.int n) | _ => False
end
/-- as one value -/
structure OT (rd : Str → D → (D → Prop) → Prop) (x : Str) (y z : D) : Prop where
  run : ∀ k : D → Prop, k z → rd x y k
theorem ev_tm {rd : Str → D → (D → Prop) → Prop} {σ : StD} {ga gb : GE} {x : Str} {y z : D} (A : Ev ga σ (.str x)) (B : Ev gb σ y) (h : OT rd x y z) : Ev (gTM rd ga gb) σ z := .mk fun k q => A _ (B _ (h.run k q))
theorem ot_split {x z : Str} (h : (z.length == 0) = false) (hl : x.length ≤ 1000000) : OT dSplit x (.str z) (.lst ((Txt.split x z).map D.str)) := ⟨fun k q => ⟨⟨h, hl⟩, q⟩⟩
theorem ot_part {x z : Str} (h : (z.length == 0) = false) (hl : x.length ≤ 1000000) : OT dPart x (.str z) (.tup [.str (Txt.partition x z).1, .str (Txt.partition x z).2.1, .str (Txt.partition x z).2.2]) := ⟨fun k q => ⟨⟨h, hl⟩, q⟩⟩
theorem o_intS {z : Str} {n : Int} (h : PySem.intText? z = some n) (hl : z.length ≤ 640) : O1 dIntS (.str z) (.int n) := .mk fun k q => ⟨n, h, hl, q⟩
end DL
/-! DK2 -/
set_option Elab.async false
set_option linter.all false
set_option maxRecDepth 100000
set_option maxHeartbeats 4000000
/-! x in a tuple of data. -/
namespace DL
open PySem PySem.Spec PyProof.Rows L2
variable [TabC]
section
variable {X : Cx} {b : Option Addr} {H0 : Hp} {a c : Expr} {ga gb : GE} {pos : Pos}
def dInT (neg : Bool) : D → D → (D → Prop) → Prop := fun x y k => match toPy x, y with
  | some d, .tup es => (match toPys es with
    | some ds => SeqAt.shaped d = true ∧ SeqAt.shaped (.tuple ds) = true ∧ k (.bl (if neg then !(ds.any fun z => PyData.eqv z d) else ds.any fun z => PyData.eqv z d))
    | none => False)
  | _, _ => False
end
theorem o_inS {c : Nat} {z : Str} : O2 (dInA false) (.str ⟨#[c]⟩) (.str z) (.bl (decide (c ∈ z.cps.toList))) := .mk fun k q => ⟨c, rfl, q⟩
theorem o_ninS {c : Nat} {z : Str} : O2 (dInA true) (.str ⟨#[c]⟩) (.str z) (.bl (!decide (c ∈ z.cps.toList))) := .mk fun k q => ⟨c, rfl, q⟩
theorem o_ixS {w : Str} {i : Int} {c : Nat} (h : atI w.cps.toList i = some c) (hl : w.length ≤ 1000000) : O2 dIx (.str w) (.int i) (.str ⟨#[c]⟩) := .mk fun k q => ⟨hl, by
  show match atI w.cps.toList i with | some c => k (.str ⟨#[c]⟩) | none => False
  rw [h]; exact q⟩
theorem o_inL {x : D} {ds : List D} (h : (flatD x && ds.all flatD) = true) : O2 (dInA false) x (.lst ds) (.bl (ds.any fun z => eqF z x)) := .mk fun k q => by
  show bif flatD x && ds.all flatD then _ else _
  rw [h]; exact q
theorem o_inTu {x : D} {ds : List D} (h : (flatD x && ds.all flatD) = true) : O2 (dInA false) x (.tup ds) (.bl (ds.any fun z => eqF z x)) := .mk fun k q => ⟨h, q⟩
/-! ### a call with a star: one of two numbers of arguments -/
end DL
/-! DK3 -/
set_option Elab.async false
set_option linter.all false
set_option maxRecDepth 100000
set_option maxHeartbeats 4000000
/-! What a split hands out. -/
namespace DL
open PySem PySem.Spec PyProof.Rows L2
end DL
/-! DK4 -/
set_option Elab.async false
set_option linter.all false
set_option maxRecDepth 100000
set_option maxHeartbeats 4000000
/-! Steps: what is raised; a list in a tuple of lists. -/
namespace DL
open PySem PySem.Spec PyProof.Rows L2
variable [TabC]
section
variable {σ : StD} {x : D} {ds es dd : List D} {eo : XD → Prop} {v : GSt} {D' : EndD} {g1' : GA} {c code : Str} {flds : List Str}
theorem o_inT {d : PyData} {qs : List PyData} (h1 : toPy x = some d) (h2 : toPys es = some qs) (s1 : SeqAt.shaped d = true) (s2 : SeqAt.shaped (.tuple qs) = true) : O2 (dInT false) x (.tup es) (.bl (qs.any fun z => PyData.eqv z d)) := .mk fun k q => by
  show match toPy x, (D.tup es) with
    | some d, .tup es => (match toPys es with
      | some ds => SeqAt.shaped d = true ∧ SeqAt.shaped (.tuple ds) = true ∧ k (.bl (if false then !(ds.any fun z => PyData.eqv z d) else ds.any fun z => PyData.eqv z d))
      | none => False)
    | _, _ => False
  rw [h1]
  show match toPys es with
      | some ds => SeqAt.shaped d = true ∧ SeqAt.shaped (.tuple ds) = true ∧ k (.bl (if false then !(ds.any fun z => PyData.eqv z d) else ds.any fun z => PyData.eqv z d))
      | none => False
  rw [h2]
  exact ⟨s1, s2, q⟩
theorem c_sof {k : D → Prop} (h0 : itemsD x ≠ []) (hl : (itemsD x).length ≤ 1000000) (h : ∀ d ∈ itemsD x, Stp (k d)) : Stp (sOf [.bag, x] k eo) := ⟨x, rfl, h0, hl, fun d hd => (h d hd).run⟩
theorem o_pow {i j : Int} (h1 : 0 ≤ j) (h2 : j ≤ 1000000) (h3 : i.natAbs < 2 ^ 64) : O2 dPow (.int i) (.int j) (.int (i ^ j.toNat)) := .mk fun k q => ⟨⟨h1, h2, h3⟩, q⟩
end
end DL
/-! DM1 -/
set_option Elab.async false
set_option linter.all false
set_option maxRecDepth 100000
set_option maxHeartbeats 4000000
/-! Lists that are new: handed back by a def, then changed or kept as the frame's own. -/
namespace DL
open PySem PySem.Spec PyProof.Rows L2
variable [TabC]
/-- the heap keeps nothing at p -/
def Fre (H : Hp) (p : Addr) : Prop := ∀ o, H p = some o → nt o = false
section
variable {K : Fg} {b : Option Addr} {H0 H H1 : Hp} {σd : StD} {σ : L2.St} {O : List Addr} {p : Addr} {vs us : List V}
theorem Rst.fre (R : Rst K b H0 σd σ H O) (h : Fre H p) : p ∉ O := fun m => by
  obtain ⟨o, e, t, _⟩ := (R.nb p m).2.2.nt
  rw [h o e] at t; cases t
end
/-! ### expressions that make a new list -/
/-- a list alone -/
def gLs (g : GE) : GE := fun σ k => g σ fun d => match d with | .lst ds => k (.lst ds) | _ => False
/-! ### a def whose every return hands back a new list -/
end DL
/-! DM2 -/
set_option Elab.async false
set_option linter.all false
set_option maxRecDepth 100000
set_option maxHeartbeats 4000000
/-! Calls that hand back a new list; what is done to it. -/
namespace DL
open PySem PySem.Spec PyProof.Rows L2
variable [TabC]
/-- what a new list must come to -/
def KF (K : Fg) (b : Option Addr) (O : List Addr) (H : Hp) (Q : VK) : D → Prop := fun d => match d with
  | .lst ds => ∀ p vs H', some p ≠ b → Fre H p → Ext b H H' → H' p = some (.lst vs) → Reps K b (hide (p :: O) H') ds vs → Q (.ref p) H'
  | _ => False
section
variable {K : Fg} {b : Option Addr} {H H1 H2 : Hp} {O : List Addr} {Q : VK} {d : D}
theorem Fre.of_ext {p : Addr} (x : Ext b H H1) (hb : some p ≠ b) (h : Fre H1 p) : Fre H p := fun o e => by
  cases t : nt o with
  | false => rfl
  | true =>
    have := h o (x.1 p o hb e t)
    rw [this] at t; cases t
theorem KF.ext (x : Ext b H H1) (h : KF K b O H Q d) : KF K b O H1 Q d := by
  cases d with
  | lst ds => exact fun p vs H' hb hf x' hp r => h p vs H' hb (hf.of_ext x hb) (x.trans x') hp r
  | _ => exact h.elim
end
end DL
/-! DM3 -/
set_option Elab.async false
set_option linter.all false
set_option maxRecDepth 100000
set_option maxHeartbeats 4000000
/-! xs[::-1]. -/
namespace DL
open PySem PySem.Spec PyProof.Rows L2
variable [TabC]
section
variable {X : Cx} {b : Option Addr} {H0 : Hp} {e : Expr} {ge : GE}
def dRev : D → (D → Prop) → Prop := fun x k => match x with | .lst ds => k (.lst ds.reverse) | _ => False
end
theorem fi_i {α : Type} {x : α} {l : List α} {i : Nat} (h : some x = l[i]?) : some x = l[i]? := h
theorem o_strI {i : Int} (h : i.natAbs.log2 < 1920) : O1 dStrI (.int i) (.str (toString i)) := .mk fun k q => ⟨h, q⟩
theorem o_rev {ds : List D} : O1 dRev (.lst ds) (.lst ds.reverse) := .mk fun k q => q
/-! ### steps over new lists -/
section
variable {σ : StD} {d : D} {ds : List D} {ga ge : GE} {v : GSt} {D' : EndD} {i : Nat}
theorem ev_ls {g : GE} (A : Ev g σ (.lst ds)) : Ev (gLs g) σ (.lst ds) := .mk fun k q => A _ q
end
end DL
/-! DM5 -/
set_option Elab.async false
set_option linter.all false
set_option maxRecDepth 100000
set_option maxHeartbeats 4000000
/-! Owned lists: two at once, one popped into the other. -/
namespace DL
open PySem PySem.Spec PyProof.Rows L2
end DL
/-! DM6 -/
set_option Elab.async false
set_option linter.all false
set_option maxRecDepth 100000
set_option maxHeartbeats 4000000
/-! A comprehension with two fors. -/
namespace DL
open PySem PySem.Spec PyProof.Rows L2
end DL
/-! DM7 -/
set_option Elab.async false
set_option linter.all false
set_option maxRecDepth 100000
set_option maxHeartbeats 4000000
/-! max of two; tuples of texts that a class holds; an empty tuple as a default. -/
namespace DL
open PySem PySem.Spec PyProof.Rows L2
variable [TabC]
section
variable {X : Cx} {b : Option Addr} {H0 : Hp} {p pos : Pos} {ga : GA} {e : Expr} {es : List Expr}
/-! ### a builtin with several arguments -/
def dMax2 : List D → (D → Prop) → Prop := fun ds k => match ds with
  | [.int i, .int j] => k (.int (if j > i then j else i))
  | _ => False
/-! ### tuples of texts that a class holds -/
/-! ### a tuple as a keyword default -/
end
theorem o_max2 {i j : Int} : ON dMax2 [.int i, .int j] (.int (if j > i then j else i)) := .mk fun k q => q
theorem o_ninTu {x : D} {ds : List D} (h : (flatD x && ds.all flatD) = true) : O2 (dInA true) x (.tup ds) (.bl (!(ds.any fun z => eqF z x))) := .mk fun k q => ⟨h, q⟩
end DL
/-! DM8 -/
set_option Elab.async false
set_option linter.all false
set_option maxRecDepth 100000
set_option maxHeartbeats 4000000
/-! A comprehension over a list that the frame owns. -/
namespace DL
open PySem PySem.Spec PyProof.Rows L2
end DL
/-! DM9 -/
set_option Elab.async false
set_option linter.all false
set_option maxRecDepth 100000
set_option maxHeartbeats 4000000
/-! Lists and tuples of one shape: how they are compared. -/
namespace DL
open PySem PySem.Spec PyProof.Rows L2
variable [TabC]
/-- values of one shape, as data -/
structure Cod {α : Type} [BEq α] (f : α → D) (g : α → PyData) (n : Nat) : Prop where
  py : ∀ x, toPy (f x) = some (g x)
  lay : ∀ x, PyData.canLay0 (g x) = true
  dep : ∀ x, PyData.depth (g x) ≤ n
  eqv : ∀ x y, PyData.eqv (g x) (g y) = (x == y)
section
variable {α : Type} [BEq α] {f : α → D} {g : α → PyData} {n : Nat}
theorem Cod.pys (c : Cod f g n) : ∀ l : List α, toPys (l.map f) = some (l.map g)
  | [] => rfl
  | x :: r => by
    show (match toPy (f x), toPys (r.map f) with | some p, some q => some (p :: q) | _, _ => none) = _
    rw [c.pys r, c.py x]; rfl
theorem Cod.lays (c : Cod f g n) : ∀ l : List α, PyData.canLayAll0 (l.map g) = true
  | [] => rfl
  | x :: r => by
    show (PyData.canLay0 (g x) && PyData.canLayAll0 (r.map g)) = true
    rw [c.lays r, c.lay x]; rfl
theorem Cod.deps (c : Cod f g n) : ∀ l : List α, PyData.depthAll (l.map g) ≤ n
  | [] => Nat.zero_le _
  | x :: r => Nat.max_le.mpr ⟨c.dep x, c.deps r⟩
theorem Cod.eqs (c : Cod f g n) : ∀ l m : List α, PyData.eqvAll (l.map g) (m.map g) = (l == m)
  | [], [] => rfl
  | [], y :: s => rfl
  | x :: r, [] => rfl
  | x :: r, y :: s => by
    show (PyData.eqv (g x) (g y) && PyData.eqvAll (r.map g) (s.map g)) = _
    rw [c.eqs r s, c.eqv x y]
    rfl
theorem Cod.lst (c : Cod f g n) : Cod (fun l : List α => .lst (l.map f)) (fun l => .list (l.map g)) (n + 1) where
  py := fun l => by simp only [toPy, c.pys l]; rfl
  lay := c.lays
  dep := fun l => Nat.succ_le_succ (c.deps l)
  eqv := c.eqs
theorem Cod.tup (c : Cod f g n) : Cod (fun l : List α => .tup (l.map f)) (fun l => .tuple (l.map g)) (n + 1) where
  py := fun l => by simp only [toPy, c.pys l]; rfl
  lay := c.lays
  dep := fun l => Nat.succ_le_succ (c.deps l)
  eqv := c.eqs
theorem Cod.any (c : Cod f g n) (x : α) : ∀ l : List α, ((l.map g).any fun z => PyData.eqv z (g x)) = l.any (· == x)
  | [] => rfl
  | y :: r => by
    show (PyData.eqv (g y) (g x) || (r.map g).any fun z => PyData.eqv z (g x)) = ((y == x) || r.any (· == x))
    rw [c.any x r, c.eqv y x]
end
section
variable {α : Type} [BEq α] {f : α → D} {g : α → PyData} {n : Nat}
theorem o_neC (c : Cod f g n) {l m : List α} (hn : n ≤ 60) : O2 (dEqA true) (.lst (l.map f)) (.lst (m.map f)) (.bl (!(l == m))) := .mk fun k q => by
  have e1 := c.lst.py l
  have e2 := c.lst.py m
  show dEq true _ _ k
  unfold dEq
  rw [e1, e2]
  refine ⟨?_, ?_, ?_⟩
  · show (PyData.canLayAll0 (l.map g) && decide (PyData.depthAll (l.map g) + 1 ≤ 64)) = true
    rw [c.lays l, decide_eq_true (by have := c.deps l; omega)]; rfl
  · show (PyData.canLayAll0 (m.map g) && decide (PyData.depthAll (m.map g) + 1 ≤ 64)) = true
    rw [c.lays m, decide_eq_true (by have := c.deps m; omega)]; rfl
  · rw [c.lst.eqv l m]; exact q
end
/-! ### steps and values -/
theorem o_ixTI {l : List Int} {i : Nat} (h : i < l.length) : O2 dIx (.tup (dints l)) (.int (0 + (i : Int))) (.int (l.getD i 0)) := .mk fun k q => by
  have e : atI (dints l) (0 + (i : Int)) = some (.int (l.getD i 0)) := by
    unfold atI ixN
    rw [Int.zero_add, if_pos (by omega), if_pos (by rw [dints_len]; omega)]
    show (dints l)[i]? = _
    rw [List.getElem?_map, List.getElem?_eq_getElem h, List.getD_eq_getElem?_getD, List.getElem?_eq_getElem h]; rfl
  show match atI (dints l) (0 + (i : Int)) with | some d => k d | none => False
  rw [e]; exact q
theorem o_tup {ds : List D} : O1 dTuple (.lst ds) (.tup ds) := .mk fun k q => q
theorem o_tup2 {ds : List D} : O1 dTuple (.tup ds) (.tup ds) := .mk fun k q => q
theorem o_lst {ds : List D} : O1 dList (.lst ds) (.lst ds) := .mk fun k q => q
theorem o_lst2 {ds : List D} : O1 dList (.tup ds) (.lst ds) := .mk fun k q => q
end DL
/-! DM10 -/
set_option Elab.async false
set_option linter.all false
set_option maxRecDepth 100000
set_option maxHeartbeats 4000000
/-! Lists and tuples of one shape: how they are compared. -/
namespace DL
end DL
/-! DN1 -/
set_option Elab.async false
set_option linter.all false
set_option maxRecDepth 100000
set_option maxHeartbeats 4000000
/-! A list that is the frame's own, handed to a call that only reads it. -/
namespace DL
open PySem PySem.Spec PyProof.Rows L2
end DL
/-! DN2 -/
set_option Elab.async false
set_option linter.all false
set_option maxRecDepth 100000
set_option maxHeartbeats 4000000
/-! A new list times an int. -/
namespace DL
open PySem PySem.Spec PyProof.Rows L2
variable [TabC]
def gRepF (ge gb : GE) : GE := fun σ k => ge σ fun d => match d with
  | .lst ds => gb σ fun y => match y with
    | .int n => (0 ≤ n ∧ n ≤ 1000 ∧ ds.length ≤ 1000) ∧ k (.lst (List.replicate n.toNat ds).flatten)
    | _ => False
  | _ => False
section
variable {X : Cx} {b : Option Addr} {H0 : Hp} {a c : Expr} {ga gb : GE} {pos : Pos}
theorem ev_repF {σ : StD} {ds : List D} {n : Int} (A : Ev ga σ (.lst ds)) (B : Ev gb σ (.int n)) (h : 0 ≤ n ∧ n ≤ 1000 ∧ ds.length ≤ 1000) : Ev (gRepF ga gb) σ (.lst (List.replicate n.toNat ds).flatten) := .mk fun k q => A _ (B _ ⟨h, q⟩)
end
end DL
/-! DS1 -/
set_option Elab.async false
set_option linter.all false
set_option maxRecDepth 100000
set_option maxHeartbeats 4000000
/-! A method whose first statement is super().__init__(..): its run. -/
namespace DL
open PySem PySem.Spec PyProof.Rows L2
variable [TabC]
/-- the law's file, as its code objects name it -/
def FILE : Str := "/claim/cut.py"
/-- the def at f, whose one captured cell holds the class at D -/
structure FunS (K : Fg) (x qual : Str) (params : Arguments) (body : List Stmt) (scope : Scope) (dvs : List V) (kws : List (Str × V)) (f : Addr) (fd : FuncData) (cda cc D : Addr) : Prop where
  ex : ∃ (oc : Value) (od : Option Addr) (dV kV doc pm : Value) (an : Option Addr) (ct : Value) (osl : Array (Option Value)),
    fd = PySem.W.fnX x qual params body scope [("__class__", cc)] dV kV doc pm an (.ref cda) ct ∧ K.lookup f = some ⟨oc, od, .func fd, osl⟩ ∧ PySem.W.codeIn K (.ref cda) qual = true ∧ DflV K dV dvs ∧ KwdV K kV kws
  co : ∃ (ccl : Value) (cdd : Option Addr) (vs : Array Value) (ccs : Array (Option Value)) (tf : Tok), K.lookup cda = some ⟨ccl, cdd, .fields vs, ccs⟩ ∧ vs[2]? = some (.str FILE tf)
  cell : ∃ (cl : Value) (cld : Option Addr) (csl : Array (Option Value)), K.lookup cc = some ⟨cl, cld, .cell (some (.ref D)), csl⟩
  cls : ∃ cd, PySem.W.clsIn K D = some cd
  kp : PySem.W.keepIn K (.ref f) = true
end DL
/-! DS2 -/
set_option Elab.async false
set_option linter.all false
set_option maxRecDepth 100000
set_option maxHeartbeats 4000000
/-! A method whose first statement is super().__init__(..), over data. -/
namespace DL
open PySem PySem.Spec PyProof.Rows L2
end DL
namespace He
open PySem PySem.Spec PyProof.Rows L2
/-! ### the head's word on such defs -/
def fnS (K : PySem.W.Frag) (a : Addr) : FnW := match K.lookup a with
  | some ⟨_, _, .func fd, _⟩ => some (fd.name, fd.qualname, fd.params, fd.body, fd.scope, fd.globals, fd.closure.map fun p => (p.1, 0), fd.builtins)
  | _ => none
def valS1 (d : DefD) : FnW := some (d.name, d.qual, d.params, .stmts d.body, d.scope, mainGlobals, [("__class__", 0)], builtinsNs)
/-- the code object, the one cell, the class in it -/
def ccS (K : PySem.W.Frag) (a : Addr) : Addr := match K.lookup a with
  | some ⟨_, _, .func fd, _⟩ => (match fd.closure with | [(_, c)] => c | _ => 0)
  | _ => 0
def cdS (K : PySem.W.Frag) (a : Addr) : Addr := match K.lookup a with
  | some ⟨_, _, .func fd, _⟩ => (match fd.code with | .ref c => c | _ => 0)
  | _ => 0
def okS1 (K : PySem.W.Frag) (d : DefD) (cls : Str) : Bool := PySem.W.keepIn K (.ref (fAd K d.at_)) && ((match K.lookup (fAd K d.at_) with
  | some ⟨_, _, .func fd, _⟩ => (match fd.code with
    | .ref cda => PySem.W.codeIn K (.ref cda) d.qual && (match K.lookup cda with
      | some ⟨_, _, .fields vs, _⟩ => (match (vs[2]? : Option Value) with | some (Value.str x _) => decide (x = DL.FILE) | _ => false)
      | _ => false)
    | _ => false) && (dflB K fd.defaults (d.dvs K) && kwdB K fd.kwdefaults (d.kws K))
  | _ => false) && ((match K.lookup (ccS K (fAd K d.at_)) with
  | some ⟨_, _, .cell (some (.ref a)), _⟩ => decide (a = ga K cls)
  | _ => false) && (PySem.W.clsIn K (ga K cls)).isSome))
theorem funS_of {K : PySem.W.Frag} {d : DefD} {cls : Str} (e : fnS K (fAd K d.at_) = valS1 d) (c : okS1 K d cls = true) : ∃ fd, DL.FunS K d.name d.qual d.params d.body d.scope (d.dvs K) (d.kws K) (fAd K d.at_) fd (cdS K (fAd K d.at_)) (ccS K (fAd K d.at_)) (ga K cls) := by
  unfold okS1 at c
  rw [Bool.and_eq_true, Bool.and_eq_true, Bool.and_eq_true] at c
  obtain ⟨kp, c2, c3, c4⟩ := c
  unfold fnS at e
  cases q : K.lookup (fAd K d.at_) with
  | none => rw [q] at c2; cases c2
  | some o =>
    obtain ⟨oc, od, dt, osl⟩ := o
    rw [q] at c2 e
    cases dt with
    | func fd =>
      obtain ⟨n1, n2, n3, n4, n5, n6, n7, n8, n9, n10, n11, n12, n13, n14, n15⟩ := fd
      have e2 : (some (n1, n2, n3, n4, n5, n6, n7.map fun p => (p.1, 0), n15) : FnW) = some (d.name, d.qual, d.params, FuncBody.stmts d.body, d.scope, mainGlobals, [(("__class__" : Str), (0 : Addr))], builtinsNs) := e
      simp only [Option.some.injEq, Prod.mk.injEq] at e2
      obtain ⟨h1, h2, h3, h4, h5, h6, h7, h8⟩ := e2
      obtain ⟨cc, rfl⟩ : ∃ cc, n7 = [(("__class__" : Str), cc)] := by
        cases n7 with
        | nil => exact absurd (congrArg List.length h7) (by simp)
        | cons p r =>
          cases r with
          | nil =>
            obtain ⟨p1, p2⟩ := p
            simp only [List.map_cons, List.map_nil, List.cons.injEq, Prod.mk.injEq, and_true] at h7
            exact ⟨p2, by rw [h7]⟩
          | cons _ _ => exact absurd (congrArg List.length h7) (by simp)
      subst h1 h2 h3 h4 h5 h6 h8
      have ec : ccS K (fAd K d.at_) = cc := by unfold ccS; rw [q]
      simp only [Bool.and_eq_true] at c2
      obtain ⟨c5, k3, k4⟩ := c2
      cases n13 with
      | ref cda =>
        have ed : cdS K (fAd K d.at_) = cda := by unfold cdS; rw [q]
        have c5 : (PySem.W.codeIn K (.ref cda) d.qual && (match K.lookup cda with
          | some ⟨_, _, .fields vs, _⟩ => (match (vs[2]? : Option Value) with | some (Value.str x _) => decide (x = DL.FILE) | _ => false)
          | _ => false)) = true := c5
        rw [Bool.and_eq_true] at c5
        obtain ⟨k1, k2⟩ := c5
        rw [ec, ed]
        rw [ec] at c3
        refine ⟨_, ⟨oc, od, n8, n9, n10, n11, n12, n14, osl, rfl, q, k1, dflB_ok k3, kwdB_ok k4⟩, ?_, ?_, ?_, kp⟩
        · split at k2
          · rename_i ccl cdd vs ccs lk
            split at k2
            · rename_i y tf hv
              exact ⟨_, _, vs, _, tf, lk, by rw [hv, of_decide_eq_true k2]⟩
            · cases k2
          · cases k2
        · split at c3
          · rename_i a b c lk
            rw [of_decide_eq_true c3] at lk
            exact ⟨_, _, _, lk⟩
          · cases c3
        · exact Option.isSome_iff_exists.mp c4
      | _ => cases c5
    | _ => cases c2
abbrev AlS : Type := Bool × List FnW
def obsS1 (fs : List (DefD × Str)) (K : PySem.W.Frag) : AlS := (fs.all fun d => okS1 K d.1 d.2, fs.map fun d => fnS K (fAd K d.1.at_))
def valS (fs : List (DefD × Str)) : AlS := (true, fs.map fun d => valS1 d.1)
def SaysS (fs : List (DefD × Str)) (K : PySem.W.Frag) : Prop := obsS1 fs K = valS fs
theorem SaysS.def_ {fs : List (DefD × Str)} {K : PySem.W.Frag} (c : SaysS fs K) (i : Nat) {d : DefD × Str} (h : fs[i]? = some d := by rfl) : ∃ fd, DL.FunS K d.1.name d.1.qual d.1.params d.1.body d.1.scope (d.1.dvs K) (d.1.kws K) (fAd K d.1.at_) fd (cdS K (fAd K d.1.at_)) (ccS K (fAd K d.1.at_)) (ga K d.2) := by
  have c2 : (fs.all fun d => okS1 K d.1 d.2) = true := congrArg (fun z : AlS => z.1) c
  have e : (fs.map fun d => fnS K (fAd K d.1.at_)) = fs.map fun d => valS1 d.1 := congrArg (fun z : AlS => z.2) c
  have e2 : (fs.map fun d => fnS K (fAd K d.1.at_))[i]? = (fs.map fun d => valS1 d.1)[i]? := by rw [e]
  rw [List.getElem?_map, List.getElem?_map, h] at e2
  exact funS_of (Option.some.inj e2) (List.all_eq_true.mp c2 d (List.mem_of_getElem? h))
/-! ### the Hook with such defs -/
end He
/-! DS4 -/
set_option Elab.async false
set_option linter.all false
set_option maxRecDepth 100000
set_option maxHeartbeats 4000000
/-! The Hook over a list of addresses that is given. -/
namespace He
open PySem PySem.Spec PyProof.Rows L2
def obsL (as : List Addr) (fa : List Fa) (fn : List DefD) (ts : List Tab) (tf : List Defn) (ex : PySem.W.Frag → Bool) (g : Addr → Option Obj) : AlX := (obsT fa fn ts (frT g as), ex (frT g as) && tabsB g tf (frT g as))
theorem saysL_of {as : List Addr} {fa : List Fa} {fn : List DefD} {ts : List Tab} {tf : List Defn} {ex : PySem.W.Frag → Bool} {w : World} {h : Heap} (e : obsL as fa fn ts tf ex h.get? = valX fn ts w) : SaysX fa fn ts tf ex w h (frT h.get? as) := by
  have e1 : obsT fa fn ts (frT h.get? as) = valT fn ts w := congrArg (fun z : AlX => z.1) e
  have e2 : (ex (frT h.get? as) && tabsB h.get? tf (frT h.get? as)) = true := congrArg (fun z : AlX => z.2) e
  obtain ⟨h1, h2⟩ := ba e2
  have key : ∀ p ∈ tf, PySem.W.codeHdIn (frT h.get? as) (cT (frT h.get? as) p).1 (cT (frT h.get? as) p).2 = true ∧ ∃ o, h.get? (cT (frT h.get? as) p).2 = some o ∧ emptyTab o = true := fun p hp => by
    obtain ⟨h3, h4⟩ := ba (List.all_eq_true.mp h2 p hp)
    refine ⟨h3, ?_⟩
    cases q : h.get? (cT (frT h.get? as) p).2 with
    | none =>
      rw [q] at h4
      cases h4
    | some o =>
      rw [q] at h4
      exact ⟨o, rfl, h4⟩
  exact ⟨e1, h1, fun p hp => (key p hp).1, fun p hp => by
    obtain ⟨_, o, q, z⟩ := key p hp
    exact frT_none q z, fun p hp => by
    obtain ⟨_, o, q, z⟩ := key p hp
    rw [q, emptyTab_eq z]⟩
def obsR (as : List Addr) (fa : List Fa) (fn : List DefD) (fs : List He5.DefA) (ss : List (DefD × Str)) (ts : List Tab) (tf : List Defn) (ex : PySem.W.Frag → Bool) (g : Addr → Option Obj) : (AlX × He.AlD) × AlS := ((obsL as fa fn ts tf ex g, He5.obsA [] fs (frT g as)), obsS1 ss (frT g as))
def hookR (as : List Addr) (fa : List Fa) (fn : List DefD) (fs : List He5.DefA) (ss : List (DefD × Str)) (ts : List Tab) (tf : List Defn) (ex : PySem.W.Frag → Bool) : PySem.W.Hook where
  α := (AlX × He.AlD) × AlS
  obs := fun s => obsR as fa fn fs ss ts tf ex s.heap.get?
  val := fun w => ((valX fn ts w, He5.valA fs), valS ss)
  says := fun w h => ∃ K : PySem.W.Frag, K.In h ∧ SaysX fa fn ts tf ex w h K ∧ He5.SaysA [] fs K ∧ SaysS ss K
  of := fun _ _ e => ⟨_, frT_in, saysL_of (congrArg (fun z : (AlX × He.AlD) × AlS => z.1.1) e), congrArg (fun z : (AlX × He.AlD) × AlS => z.1.2) e, congrArg (fun z : (AlX × He.AlD) × AlS => z.2) e⟩
  keeps := fun _ _ _ ⟨K, hK, c, c2, c3⟩ k => ⟨K, PySem.W.Frag.In.keeps hK k, ⟨c.t, c.more, c.hd, c.out, fun p hp => k _ _ (c.empty p hp)⟩, c2, c3⟩
theorem obsR_eq {as : List Addr} {fa : List Fa} {fn : List DefD} {fs : List He5.DefA} {ss : List (DefD × Str)} {ts : List Tab} {tf : List Defn} {ex : PySem.W.Frag → Bool} {g : Addr → Option Obj} {s : Shared} (h : ∀ a, g a = s.heap.get? a) : obsR as fa fn fs ss ts tf ex g = (hookR as fa fn fs ss ts tf ex).obs s := by
  have e : g = s.heap.get? := funext h
  rw [e] <;> rfl
end He
/-! DS3 -/
set_option Elab.async false
set_option linter.all false
set_option maxRecDepth 100000
set_option maxHeartbeats 4000000
/-! A tuple times an int from 0 on. -/
namespace DL
open PySem PySem.Spec PyProof.Rows L2
variable [TabC]
def gRepT (ge gb : GE) : GE := fun σ k => ge σ fun d => match d with
  | .tup ds => gb σ fun y => match y with
    | .int n => (0 ≤ n ∧ n ≤ 1000 ∧ ds ≠ [] ∧ ds.length ≤ 1000) ∧ k (.tup (List.replicate n.toNat ds).flatten)
    | _ => False
  | .str z => gb σ fun y => match y with
    | .int n => (0 ≤ n ∧ n ≤ 1000 ∧ z.length ≤ 1000) ∧ k (.str (Txt.mul z n))
    | _ => False
  | _ => False
section
variable {X : Cx} {b : Option Addr} {H0 : Hp} {a c : Expr} {ga gb : GE} {pos : Pos}
theorem ev_repT {σ : StD} {ds : List D} {n : Int} (A : Ev ga σ (.tup ds)) (B : Ev gb σ (.int n)) (h : 0 ≤ n ∧ n ≤ 1000 ∧ ds ≠ [] ∧ ds.length ≤ 1000) : Ev (gRepT ga gb) σ (.tup (List.replicate n.toNat ds).flatten) := .mk fun k q => A _ (B _ ⟨h, q⟩)
end
end DL
/-! DT1 -/
set_option Elab.async false
set_option linter.all false
set_option maxRecDepth 100000
set_option maxHeartbeats 4000000
/-! sum of a list of objects whose + is their class's. -/
namespace PySem
open Sem (wp)
end PySem
/-! DT2 -/
set_option Elab.async false
set_option linter.all false
set_option maxRecDepth 100000
set_option maxHeartbeats 4000000
/-! sum of a list of objects, as data. -/
namespace DL
open PySem PySem.Spec PyProof.Rows L2
end DL
/-! DT3 -/
set_option Elab.async false
set_option linter.all false
set_option maxRecDepth 100000
set_option maxHeartbeats 4000000
/-! sum of objects as a reading; inherited methods; objects of either class. -/
namespace DL
open PySem PySem.Spec PyProof.Rows L2
end DL
/-! DU1 -/
set_option Elab.async false
set_option linter.all false
set_option maxRecDepth 100000
set_option maxHeartbeats 4000000
/-! The call of an object whose class has __call__. -/
namespace DL
open PySem PySem.W PySem.Calls PyProof.Rows
end DL
namespace DL
open PySem PySem.Spec PySem.Calls PyProof.Rows L2
variable [TabC]
/-- x(..), x an object of the class c -/
def gCi (c : Str) (s : GS) (eo : XD → Prop) (go : GE) (ga : GA) : GE := fun σ k => go σ fun d => match d with
  | .ins c' ns ds => c' = c ∧ ga σ fun es => s (.ins c' ns ds :: es) k eo
  | _ => False
end DL
/-! DU2 -/
set_option Elab.async false
set_option linter.all false
set_option maxRecDepth 100000
set_option maxHeartbeats 4000000
/-! New lists by comprehension and by a choice; max of a list; texts that a class holds. -/
namespace DL
open PySem PySem.Spec PySem.Calls PyProof.Rows L2
variable [TabC]
section
variable {X : Cx} {b : Option Addr} {H0 : Hp} {e a c' : Expr} {te : GT} {ga gb ge : GE} {pos p : Pos} {f c : Str}
/-! ### texts of a class -/
def gCon (c f : Str) (d : D) (ge : GE) : GE := fun σ k => ge σ fun x => match x with | .ins c' ns _ => c' = c ∧ f ∉ ns ∧ k d | _ => False
/-! ### max of a list of ints -/
end
/-! ### readings -/
section
variable {σ : StD} {ga go ge : GE} {x d : D} {ds es : List D} {c f : Str} {s : GS} {eo : XD → Prop} {g1' : GA} {ns : List Str}
theorem ev_ci (A : Ev go σ (.ins c ns ds)) (B : EvA g1' σ es) (h : SR s (.ins c ns ds :: es) d) : Ev (gCi c s eo go g1') σ d := .mk fun k q => A _ ⟨rfl, B _ (h _ _ q)⟩
theorem ev_con {d' : D} (A : Ev ge σ (.ins c ns ds)) (h : f ∉ ns) : Ev (gCon c f d' ge) σ d' := .mk fun k q => A _ ⟨rfl, h, q⟩
end
end DL
/-! DX1 -/
set_option Elab.async false
set_option linter.all false
set_option maxRecDepth 100000
set_option maxHeartbeats 4000000
/-! x op y, x of one own class and y of another; two fors gathered. -/
namespace DL
open PySem PySem.W PySem.Calls PyProof.Rows
end DL
namespace DL
open PySem PySem.Spec PySem.Calls PyProof.Rows L2
/-! ### two fors, gathered -/
end DL
/-! DY1 -/
set_option Elab.async false
set_option linter.all false
set_option maxRecDepth 100000
set_option maxHeartbeats 4000000
/-! Dicts as data: what is read of them, new ones of lists. -/
namespace DL
open PySem PySem.Spec PyProof.Rows L2
variable [TabC]
/-! ### keys, pairs -/
def valP (l : List (Key × D)) (k : Key) : Option D := (l.find? fun p => decide (p.1 = k)).map (·.2)
section
variable {K : Fg} {b : Option Addr} {H H' : Hp}
inductive KR (K : Fg) (b : Option Addr) (H : Hp) : List (Key × D) → List (Key × V) → Prop
  | nil : KR K b H [] []
  | cons {k : Key} {d : D} {v : V} {l : List (Key × D)} {m : List (Key × V)} (h : Rep K b H d v) (r : KR K b H l m) : KR K b H ((k, d) :: l) ((k, v) :: m)
theorem KR.mono {l : List (Key × D)} {m : List (Key × V)} (x : Le b H H') (h : KR K b H l m) : KR K b H' l m := by
  induction h with
  | nil => exact .nil
  | cons h _ ih => exact .cons (h.mono x) ih
theorem KR.of : ∀ {ks : List Key} {ds : List D} {vs : List V}, ks.length = vs.length → Reps K b H ds vs → KR K b H (ks.zip ds) (ks.zip vs)
  | [], _, _, _, _ => by rw [List.zip_nil_left, List.zip_nil_left]; exact .nil
  | k :: ks, [], vs, l, r => by rw [r.of_nil] at l; cases l
  | k :: ks, d :: ds, vs, l, r => by
    obtain ⟨v, q, rfl, h1, h2⟩ := r.of_cons
    exact .cons h1 (KR.of (by simpa using l) h2)
theorem KR.ks {l : List (Key × D)} {m : List (Key × V)} (h : KR K b H l m) : l.map (·.1) = m.map (·.1) := by
  induction h with
  | nil => rfl
  | cons _ _ ih => rw [List.map_cons, List.map_cons, ih]
theorem KR.ds {l : List (Key × D)} {m : List (Key × V)} (h : KR K b H l m) : Reps K b H (l.map (·.2)) (m.map (·.2)) := by
  induction h with
  | nil => exact Reps.nil
  | cons h _ ih => exact Reps.cons h ih
theorem KR.len {l : List (Key × D)} {m : List (Key × V)} (h : KR K b H l m) : l.length = m.length := by
  induction h with
  | nil => rfl
  | cons _ _ ih => rw [List.length_cons, List.length_cons, ih]
theorem KR.any {l : List (Key × D)} {m : List (Key × V)} (h : KR K b H l m) (k : Key) : (l.any fun p => decide (p.1 = k)) = m.any fun p => decide (p.1 = k) := by
  induction h with
  | nil => rfl
  | cons _ _ ih => rw [List.any_cons, List.any_cons, ih]
theorem KR.val {l : List (Key × D)} {m : List (Key × V)} (h : KR K b H l m) (k : Key) : match valP l k with
    | some d => ∃ v, valV m k = some v ∧ Rep K b H d v
    | none => valV m k = none := by
  induction h with
  | nil => exact rfl
  | @cons k' d v l m h _ ih =>
    unfold valP valV at ih ⊢
    rw [List.find?_cons, List.find?_cons]
    by_cases e : k' = k
    · simp only [e, decide_true]
      exact ⟨v, rfl, h⟩
    · simp only [e, decide_false]
      exact ih
theorem Rep.dic {ks : List Key} {ds : List D} {v : V} (h : Rep K b H (.dic ks ds) v) : ∃ a m, v = .ref a ∧ some a ≠ b ∧ (∃ o, H a = some (.frz o (.dK m))) ∧ KR K b H (ks.zip ds) m ∧ m.map (·.1) = ks := by
  simp only [Rep] at h
  obtain ⟨a, o, vs, e, n, q, l, r⟩ := h
  refine ⟨a, _, e, n, ⟨o, q⟩, KR.of l r, ?_⟩
  rw [List.map_fst_zip (by omega)]
end
/-! ### what is read of a dict -/
section
variable {X : Cx} {b : Option Addr} {H0 : Hp} {a c e : Expr} {ga gb : GE} {pos p : Pos} {j : Nat}
theorem upd_upd {H : Hp} {p : Addr} {o u : HO} : upd (upd H p o) p u = upd H p u := by
  funext c
  by_cases e : c = p
  · subst e; rw [upd_same, upd_same]
  · rw [upd_ne e, upd_ne e, upd_ne e]
end
end DL
/-! DY2 -/
set_option Elab.async false
set_option linter.all false
set_option maxRecDepth 100000
set_option maxHeartbeats 4000000
/-! Dict comprehensions; sorted texts; dict of a list of pairs. -/
namespace DL
open PySem PySem.Spec PyProof.Rows L2
/-! ### {k: v for x in it if c} -/
/-! ### dict(a list of pairs) -/
end DL
/-! DY3 -/
set_option Elab.async false
set_option linter.all false
set_option maxRecDepth 100000
set_option maxHeartbeats 4000000
/-! Walks over dicts; what the readings over dicts come to. -/
namespace DL
open PySem PySem.Spec PyProof.Rows L2
/-! ### readings -/
end DL
/-! DY4 -/
set_option Elab.async false
set_option linter.all false
set_option maxRecDepth 100000
set_option maxHeartbeats 4000000
/-! Displays of dicts; sorted(d). -/
namespace DL
open PySem PySem.Spec PyProof.Rows L2
end DL
/-! DY5 -/
set_option Elab.async false
set_option linter.all false
set_option maxRecDepth 100000
set_option maxHeartbeats 4000000
/-! A dict that the frame owns: made, written, given away; += on a number. -/
namespace DL
open PySem PySem.Spec PyProof.Rows L2
end DL
/-! DR1 -/
set_option Elab.async false
set_option linter.all false
set_option maxRecDepth 100000
set_option maxHeartbeats 4000000
/-! fractions as rational numbers; sorted texts -/
namespace DL
open PySem PySem.Spec PyProof.Rows L2
variable [TabC]
/-- sizes of a fraction -/
def QZ (n : Nat) (x : Rat) : Prop := Sz n x.num ∧ Sz n (x.den : Int)
theorem QZ.mono {n m : Nat} {x : Rat} (h : QZ n x) (g : n ≤ m) : QZ m x := ⟨h.1.mono g, h.2.mono g⟩
theorem qz_div {n : Nat} {a b : Int} (ha : Sz n a) (hb : Sz n b) (h0 : b ≠ 0) : QZ n (Rat.divInt a b) := by
  constructor
  · unfold Sz at *
    rw [Rat.num_divInt]
    have h1 : (b.sign * a).natAbs = a.natAbs := by
      rw [Int.natAbs_mul, Int.natAbs_sign]
      rw [if_neg h0, Nat.one_mul]
    refine Nat.lt_of_le_of_lt (?_ : _ ≤ a.natAbs) ha
    rw [← h1]
    exact Int.natAbs_ediv_le_natAbs _ _
  · unfold Sz at *
    rw [Rat.den_divInt, if_neg h0, Int.natAbs_natCast]
    exact Nat.lt_of_le_of_lt (Nat.div_le_self _ _) hb
theorem den_ne (x : Rat) : (x.den : Int) ≠ 0 := by have := x.den_pos; omega
theorem add_div (x y : Rat) : Rat.divInt (x.num * y.den + y.num * x.den) (x.den * y.den) = x + y := by
  rw [Rat.add_def', show ((x.den : Int) * (y.den : Int)) = ((x.den * y.den : Nat) : Int) from (Int.natCast_mul _ _).symm, Rat.divInt_ofNat]
theorem mul_div (x y : Rat) : Rat.divInt (x.num * y.num) (x.den * y.den) = x * y := by
  rw [Rat.mul_def', show ((x.den : Int) * (y.den : Int)) = ((x.den * y.den : Nat) : Int) from (Int.natCast_mul _ _).symm, Rat.divInt_ofNat]
theorem QZ.add {n m : Nat} {x y : Rat} (h : QZ n x) (g : QZ m y) : QZ (n + m + 1) (x + y) := by
  rw [← add_div]
  refine qz_div ((h.1.mul g.2).add ((g.1.mul h.2).mono (by omega))) ((h.2.mul g.2).mono (by omega)) (Int.mul_ne_zero (den_ne _) (den_ne _))
theorem QZ.mul {n m : Nat} {x y : Rat} (h : QZ n x) (g : QZ m y) : QZ (n + m) (x * y) := by
  rw [← mul_div]
  exact qz_div (h.1.mul g.1) (h.2.mul g.2) (Int.mul_ne_zero (den_ne _) (den_ne _))
theorem QZ.int {n : Nat} {i : Int} (h : Sz n i) (h1 : 1 ≤ n) : QZ n (i : Rat) := ⟨h, (show Sz 1 (((i : Rat).den : Nat) : Int) from (show Sz 1 1 from szW (by decide))).mono h1⟩
/-! sorted texts -/
end DL
/-! DR2 -/
set_option Elab.async false
set_option linter.all false
set_option maxRecDepth 100000
set_option maxHeartbeats 4000000
/-! dicts whose keys are texts -/
namespace DL
open PySem PySem.Spec PyProof.Rows L2
variable [TabC]
theorem O1.eq {rd : D → (D → Prop) → Prop} {x y z : D} (h : O1 rd x y) (e : y = z) : O1 rd x z := e ▸ h
theorem O2.eq {rd : D → D → (D → Prop) → Prop} {x y z w : D} (h : O2 rd x y z) (e : z = w) : O2 rd x y w := e ▸ h
theorem SR.eq {s : GS} {ds : List D} {d d' : D} (h : SR s ds d) (e : d = d') : SR s ds d' := e ▸ h
/-- what a dict holds at a name -/
def valS (l : List (Str × D)) (n : Str) : D := match l.find? (fun p => decide (p.1 = n)) with | some p => p.2 | none => .non
section
variable {b : Option Addr} {H0 : Hp} {X : Cx}
theorem DB.or {e : Expr} {g1 g2 : GT} (h1 : DB b H0 X e g1) (h2 : DB b H0 X e g2) : DB b H0 X e (fun σ k => g1 σ k ∨ g2 σ k) := ⟨⟨fun pins s σ H Q I ⟨σd, O, R, q⟩ => by
  rcases q with q | q
  · exact h1.pt.run pins s σ H Q I ⟨σd, O, R, q⟩
  · exact h2.pt.run pins s σ H Q I ⟨σd, O, R, q⟩⟩, fun σ k k' i q => q.imp (h1.mn _ _ _ i) (h2.mn _ _ _ i)⟩
end
end DL
/-! DR3 -/
set_option Elab.async false
set_option linter.all false
set_option maxRecDepth 100000
set_option maxHeartbeats 4000000
/-! a dict == {} -/
namespace DL
open PySem PySem.Spec PyProof.Rows L2
end DL
/-! DR4 -/
set_option Elab.async false
set_option linter.all false
set_option maxRecDepth 100000
set_option maxHeartbeats 4000000
/-! try: return CALL, except X: return None. -/
namespace DL
open PySem PySem.Spec PyProof.Rows L2
end DL
/-! DR5 -/
set_option Elab.async false
set_option linter.all false
set_option maxRecDepth 100000
set_option maxHeartbeats 4000000
/-! Tables of the module, tuples of the module, in a locked list, three targets at once. -/
namespace DL
open PySem PySem.Spec PyProof.Rows L2
/-! ### a dict of the module: texts to numbers -/
/-! ### readings -/
end DL
namespace DL
open PySem PySem.Spec PyProof.Rows L2
end DL
/-! DR6 -/
set_option Elab.async false
set_option linter.all false
set_option maxRecDepth 100000
set_option maxHeartbeats 4000000
/-! Three names at once, none of them owned. -/
namespace DL
open PySem PySem.Spec PyProof.Rows L2
end DL
/-! DR7 -/
set_option Elab.async false
set_option linter.all false
set_option maxRecDepth 100000
set_option maxHeartbeats 4000000
/-! == of dicts whose values have an __eq__ of their own. -/
namespace PySem.W
open Lean Elab Tactic Meta PySem PySem.Calls PyProof.Rows PyProof.V PySem.Spec
end PySem.W
namespace DL
open PySem PySem.Spec PyProof.Rows L2
end DL
/-! DR8 -/
set_option Elab.async false
set_option linter.all false
set_option maxRecDepth 100000
set_option maxHeartbeats 4000000
/-! *d, d a dict; readings of d == e. -/
namespace DL
open PySem PySem.Spec PyProof.Rows L2
end DL
/-! DR9 -/
set_option Elab.async false
set_option linter.all false
set_option maxRecDepth 100000
set_option maxHeartbeats 4000000
/-! try whose body lets nothing out; rsplit. -/
namespace L2
open PySem PySem.Spec PySem.Builtin PySem.Builtin.Str PyProof.Rows
end L2
namespace DL
open PySem PySem.Spec PyProof.Rows L2
end DL
namespace L2
open PySem PySem.Spec PySem.Builtin PyProof.Rows
end L2
namespace DL
open PySem PySem.Spec PyProof.Rows L2
end DL
/-! DR10 -/
set_option Elab.async false
set_option linter.all false
set_option maxRecDepth 100000
set_option maxHeartbeats 4000000
/-! Dicts that the frame owns: made by dict(..), x.pop(k), lent to an expression. -/
namespace DL
open PySem PySem.Spec PyProof.Rows L2
variable [TabC]
/-! ### x.pop(k) -/
def dropP (l : List (Key × D)) (k : Key) : List (Key × D) := l.filter fun p => decide (p.1 ≠ k)
section
variable {K : Fg} {b : Option Addr} {H : Hp}
theorem KR.drop {l : List (Key × D)} {m : List (Key × V)} {k : Key} (h : KR K b H l m) : KR K b H (dropP l k) (dropK m k) := by
  induction h with
  | nil => exact .nil
  | @cons k' d v l m h r ih =>
    unfold dropP dropK at ih ⊢
    by_cases e : k' = k
    · rw [List.filter_cons_of_neg (by simp [e]), List.filter_cons_of_neg (by simp [e])]
      exact ih
    · rw [List.filter_cons_of_pos (by simp [e]), List.filter_cons_of_pos (by simp [e])]
      exact .cons h ih
end
/-! ### x = dict(..), the frame's own -/
/-! ### a dict that the frame owns, lent to an expression that hands on no dict -/
/-! ### readings -/
/-! ### len(d) -/
/-! ### list(d), a new list -/
end DL
/-! DR11 -/
set_option Elab.async false
set_option linter.all false
set_option maxRecDepth 100000
set_option maxHeartbeats 4000000
/-! x op y, x of one own class whose def gives NotImplemented, y of another whose reflected def answers. -/
namespace DL
open PySem PySem.W PySem.Calls PyProof.Rows
end DL
namespace DL
open PySem PySem.Spec PyProof.Rows L2
/-! ### a def whose first statement is `if test: return NotImplemented` -/
end DL
/-! DR12 -/
set_option Elab.async false
set_option linter.all false
set_option maxRecDepth 100000
set_option maxHeartbeats 4000000
/-! Dicts: x.clear(), an owned dict lent to a call, dicts that are new. -/
namespace DL
open PySem PySem.Spec PyProof.Rows L2
variable [TabC]
/-! ### x.clear() -/
/-! ### an owned dict that a call may look at -/
/-! ### expressions that make a new dict -/
def KFd (K : Fg) (b : Option Addr) (O : List Addr) (H : Hp) (Q : VK) : D → Prop := fun d => match d with
  | .dic ks ds => ∀ p m H', some p ≠ b → Fre H p → Ext b H H' → H' p = some (.dK m) → KR K b (hide (p :: O) H') (ks.zip ds) m → Q (.ref p) H'
  | _ => False
section
variable {K : Fg} {b : Option Addr} {H0 H H1 H2 : Hp} {O : List Addr} {Q : VK} {d : D} {σd : StD} {σ : L2.St} {p : Addr} {m : List (Key × V)}
theorem KFd.ext (x : Ext b H H1) (h : KFd K b O H Q d) : KFd K b O H1 Q d := by
  cases d with
  | dic ks ds => exact fun p vs H' hb hf x' hp r => h p vs H' hb (hf.of_ext x hb) (x.trans x') hp r
  | _ => exact h.elim
end
/-! ### a def that hands back a new dict -/
/-! ### readings -/
end DL
/-! DR14 -/
set_option Elab.async false
set_option linter.all false
set_option maxRecDepth 100000
set_option maxHeartbeats 4000000
/-! Lists that an __init__ keeps in fields of self and appends to: a slot that is free keeps what the list holds (`.gho`). -/
namespace DL
open PySem PySem.Spec PyProof.Rows L2
end DL
/-! DR15 -/
set_option Elab.async false
set_option linter.all false
set_option maxRecDepth 100000
set_option maxHeartbeats 4000000
/-! len(set(xs)), xs a list of ints. -/
namespace DL
open PySem PySem.Spec PyProof.Rows L2
end DL
/-! DR16 -/
set_option Elab.async false
set_option linter.all false
set_option maxRecDepth 100000
set_option maxHeartbeats 4000000
/-! A lent dict walked over by one expression; a new dict by a function's call; x, y = e, {}; either of two values. -/
namespace DL
open PySem PySem.Spec PyProof.Rows L2
/-! ### readings -/
end DL
/-! DR17 -/
set_option Elab.async false
set_option linter.all false
set_option maxRecDepth 100000
set_option maxHeartbeats 4000000
/-! x + y as a new list; l.index(x). -/
namespace DL
open PySem PySem.Spec PyProof.Rows L2
variable [TabC]
section
variable {X : Cx} {b : Option Addr} {H0 : Hp} {a c e : Expr} {ga gb : GE} {pos p apos : Pos} {x : Str}
theorem Rst.fr {K : Fg} {H H' : Hp} {σd : StD} {σ : L2.St} {O : List Addr} (R : Rst K b H0 σd σ H O) (x : Ext b H H') {l : Addr} (hp : H' l = none) : some l ≠ b ∧ Fre H l := by
  refine ⟨((R.mono x).free hp).2, fun o e => ?_⟩
  cases t : nt o with
  | false => rfl
  | true =>
    exfalso
    by_cases hb : some l = b
    · exact ((R.mono x).free hp).2 hb
    · have := x.1 l o hb e t
      rw [hp] at this; cases this
end
end DL
/-! DR18 -/
set_option Elab.async false
set_option linter.all false
set_option maxRecDepth 100000
set_option maxHeartbeats 4000000
/-! sorted of data of one shape. -/
namespace L2
open PySem PySem.Spec PyProof.Rows
end L2
namespace DL
open PySem PySem.Spec PyProof.Rows L2
end DL
/-! DR19 -/
set_option Elab.async false
set_option linter.all false
set_option maxRecDepth 100000
set_option maxHeartbeats 4000000
/-! Dicts with tuple keys, the frame's own. -/
namespace L2
open PySem PySem.Spec PyProof.Rows
end L2
namespace DL
open PySem PySem.Spec PyProof.Rows L2
variable [TabC]
abbrev KeyT := List Key
def valT (l : List (KeyT × D)) (k : KeyT) : Option D := (l.find? fun p => decide (p.1 = k)).map (·.2)
section
variable {K : Fg} {b : Option Addr} {H H' : Hp}
inductive KRT (K : Fg) (b : Option Addr) (H : Hp) : List (KeyT × D) → List (KeyT × V) → Prop
  | nil : KRT K b H [] []
  | cons {k : KeyT} {d : D} {v : V} {l : List (KeyT × D)} {m : List (KeyT × V)} (h : Rep K b H d v) (r : KRT K b H l m) : KRT K b H ((k, d) :: l) ((k, v) :: m)
theorem KRT.mono {l : List (KeyT × D)} {m : List (KeyT × V)} (x : Le b H H') (h : KRT K b H l m) : KRT K b H' l m := by
  induction h with
  | nil => exact .nil
  | cons h _ ih => exact .cons (h.mono x) ih
theorem KRT.ds {l : List (KeyT × D)} {m : List (KeyT × V)} (h : KRT K b H l m) : Reps K b H (l.map (·.2)) (m.map (·.2)) := by
  induction h with
  | nil => exact Reps.nil
  | cons h _ ih => exact Reps.cons h ih
theorem KRT.len {l : List (KeyT × D)} {m : List (KeyT × V)} (h : KRT K b H l m) : l.length = m.length := by
  induction h with
  | nil => rfl
  | cons _ _ ih => rw [List.length_cons, List.length_cons, ih]
theorem KRT.any {l : List (KeyT × D)} {m : List (KeyT × V)} (h : KRT K b H l m) (k : KeyT) : (l.any fun p => decide (p.1 = k)) = m.any fun p => decide (p.1 = k) := by
  induction h with
  | nil => rfl
  | cons _ _ ih => rw [List.any_cons, List.any_cons, ih]
theorem KRT.val {l : List (KeyT × D)} {m : List (KeyT × V)} (h : KRT K b H l m) (k : KeyT) : match valT l k with
    | some d => ∃ v, valV m k = some v ∧ Rep K b H d v
    | none => valV m k = none := by
  induction h with
  | nil => exact rfl
  | @cons k' d v l m h _ ih =>
    unfold valT valV at ih ⊢
    rw [List.find?_cons, List.find?_cons]
    by_cases e : k' = k
    · simp only [e, decide_true]
      exact ⟨v, rfl, h⟩
    · simp only [e, decide_false]
      exact ih
end
end DL
/-! DR20 -/
set_option Elab.async false
set_option linter.all false
set_option maxRecDepth 100000
set_option maxHeartbeats 4000000
/-! x[i] = e and x[i], x the frame's own list. -/
namespace DL
open PySem PySem.Spec PyProof.Rows L2
/-! ### readings -/
end DL
/-! DR21 -/
set_option Elab.async false
set_option linter.all false
set_option maxRecDepth 100000
set_option maxHeartbeats 4000000
/-! x, y = [], [] where a comprehension reads them later; lists shown ahead of a statement in a def that hands back a new list. -/
namespace DL
open PySem PySem.Spec PyProof.Rows L2
end DL
/-! DR22 -/
set_option Elab.async false
set_option linter.all false
set_option maxRecDepth 100000
set_option maxHeartbeats 4000000
/-! An error of the program's own as a value. -/
namespace DL
open PySem PySem.Spec PyProof.Rows L2
variable [TabC]
section
variable {X : Cx} {eb : EB} {b : Option Addr} {H0 : Hp} {E : XK} {eo : XD → Prop} {c code : Str} {flds : List Str} {ga : GA} {e : Expr} {es : List Expr} {p pos pos' : Pos} {x : Str} {k : Nat} {fI : Addr} {fd : FuncData} {ps : List Str} {dd : List D} {dvs : List V} {dus : List Value}
theorem exc_read (T : ErrK X.K eb c fI flds) {σd : StD} {σ : L2.St} {H H1 : Hp} {O : List Addr} {ds : List D} {vs : List V} {Q : VK} (x1 : Ext b H H1) (R : Rst X.K b H0 σd σ H O) (r1 : Reps X.K b (hide O H1) ds vs) (hdd : ∀ b H, Reps X.K b H dd dvs)
    (z1 : (ds ++ dd).length = flds.length) (z2 : ds.length ≤ 900) (z3 : ∀ v H', Ext b H H' → Rep X.K b (hide O H') (.exc c (errNs flds) ((ds ++ dd).reverse ++ [.str code])) v → Q v H') : vs.length ≤ 1000 ∧ ∀ a, H1 a = none → spErr (He.ga X.K c) code flds (.ref a :: (vs ++ dvs)) (upd H1 a (exo a (He.ga X.K c) none))
      (fun v H2 => v = .non ∧ Q (.ref a) H2) (fun _ _ _ => False) := by
  have rr : Reps X.K b (hide O H1) (ds ++ dd) (vs ++ dvs) := r1.append (hdd _ _)
  have hl : (vs ++ dvs).length = flds.length := by rw [← rr.length]; exact z1
  refine ⟨by rw [← r1.length]; omega, fun a ha => ?_⟩
  refine ⟨a, vs ++ dvs, rfl, hl, upd_same, fun dx H2 hdx ne h2a h2d kp => ?_⟩
  have hdx1 : H1 dx = none := by rw [← hdx, upd_ne ne]
  have R1 := R.mono x1
  have fa : a ∉ O := R1.fre fun o z => by rw [ha] at z; cases z
  have fd : dx ∉ O := R1.fre fun o z => by rw [hdx1] at z; cases z
  have nb : ∀ y, y ∉ O → H1 y = none → some y ≠ b := fun y hy hn z => by
    have w := R1.bg y z.symm
    unfold BagAt at w
    rw [hide_out hy, hn] at w
    simp at w
  have ey : ∀ y o, H1 y = some o → H2 y = some o := fun y o h => by
    have n1 : y ≠ a := ne_of_none h ha
    have n2 : y ≠ dx := ne_of_none h hdx1
    rw [kp y n1 n2, upd_ne n1]; exact h
  have xx : Ext b H1 H2 := Ext.all ey
  refine ⟨rfl, z3 (.ref a) H2 (x1.trans xx) ⟨a, dx, (vs ++ dvs).reverse ++ [V.str code], rfl, nb a fa ha, nb dx fd hdx1, by rw [hide_out fa]; exact h2a, by rw [hide_out fd, h2d, errFs_zip hl], ?_, ((rr.mono (xx.1.hide O)).reverse).append (Reps.cons rfl Reps.nil)⟩⟩
  rw [List.length_append] at hl
  simp only [errNs, List.length_append, List.length_reverse, List.length_cons, List.length_nil]
  omega
end
end DL
/-! DR23 -/
set_option Elab.async false
set_option linter.all false
set_option maxRecDepth 100000
set_option maxHeartbeats 4000000
/-! The fields of an error that is a value. -/
namespace DL
open PySem PySem.Spec PyProof.Rows L2
variable [TabC]
section
variable {X : Cx} {b : Option Addr} {H0 : Hp} {e : Expr} {te : TE} {ge : GE} {pos : Pos} {n : Str} {CL : List Str}
def tXfV (K : Fg) (te : TE) (n : Str) : TE := fun σ H Q => te σ H fun x H1 => ∃ (a C dx : Addr) (fs : List (Str × V)) (v : V), x = .ref a ∧ H1 a = some (exo a C (some dx)) ∧ H1 dx = some (exd dx fs) ∧ XfC K C ∧ PySem.W.findIn K (.ref C) n = some none ∧ fs.lookup n = some v ∧ Q v H1
theorem pe_xfv (he : PE X e te) (hb : attributeBase e n X.env (eval e X.env) = eval e X.env := by rfl) : PE X (.Attribute e n pos) (tXfV X.K te n) := by
  refine ⟨fun pins s σ H Q I h => ?_⟩
  refine attr_of hb (thn (he.run pins s σ H _ I h) fun u s1 hh => ?_)
  obtain ⟨x, H1, I1, rx, a, C, dx, fs, v, ex, ea, ed, T, hno, l, q⟩ := hh
  subst ex
  obtain rfl : u = Value.ref a := rx
  obtain ⟨t0, hoe⟩ := exo_at I1.hok ea
  obtain ⟨mA, hns, hr⟩ := exd_at I1.hok ed
  obtain ⟨od, ho, hl⟩ := lookIn_ns hns
  obtain ⟨u, hu, ru⟩ := RelO.some_of (v := v) (o := mA n) (by rw [← l]; exact hr n)
  have J : PySem.W.InstAt s1.heap a _ C (some od) := ⟨hoe, rfl, by unfold PySem.W.notCls; rfl, ho⟩
  exact HandSPX.exc_get I1.kIn J T.ga T.gg T.exC (PySem.W.findObj_own T.hdC hno rfl (by rw [hl, hu])) (handed_of ru) ⟨v, H1, I1.tok _, ru, q⟩
/-- what stands of the error classes: their fields are their own dict's -/
structure XfOk (K : Fg) (CL FL : List Str) : Prop where
  x : ∀ c ∈ CL, XfC K (He.ga K c)
  no : ∀ c ∈ CL, ∀ f ∈ FL, PySem.W.findIn K (.ref (He.ga K c)) f = some none
/-- e.n of an error: the first of that name -/
def gXf (CL : List Str) (n : Str) (ge : GE) : GE := fun σ k => ge σ fun d => match d with
  | .exc c ns ds => c ∈ CL ∧ ns.Nodup ∧ ∃ i : Nat, ns[i]? = some n ∧ (match ds[i]? with | some d => k d | none => False)
  | _ => False
theorem gXf_mn (A : Mn ge) : Mn (gXf CL n ge) := fun σ k k' h q => A _ _ _ (fun d z => by
  cases d with
  | exc c ns ds =>
    obtain ⟨z1, z2, i, z3, w⟩ := z
    refine ⟨z1, z2, i, z3, ?_⟩
    cases e : ds[i]? <;> rw [e] at w <;> first | exact h _ w | exact w.elim
  | _ => exact z.elim) q
theorem de_xf {FL : List Str} (W : XfOk X.K CL FL) (hf : n ∈ FL) (A : DE b H0 X e ge) (hb : attributeBase e n X.env (eval e X.env) = eval e X.env := by rfl) : DE b H0 X (.Attribute e n pos) (gXf CL n ge) :=
  ⟨pe_imp (pe_xfv A.pe hb) fun σ H Q ⟨σd, O, R, q⟩ => ⟨σd, O, R, A.mn _ _ _ (fun d z v H' x r => by
    cases d with
    | exc c ns ds =>
      obtain ⟨z1, z2, i, z3, w⟩ := z
      obtain ⟨a, dx, vs, rfl, n1, n2, h1, h2, l, rs⟩ := r.exc
      cases e : ds[i]? with
      | none => rw [e] at w; exact w.elim
      | some d =>
        rw [e] at w
        obtain ⟨y, e2, ry⟩ := rs.get e
        exact ⟨a, _, dx, _, y, rfl, (of_hide h1).2, (of_hide h2).2, W.x c z1, W.no c z1 n hf, lookup_zip z2 z3 e2, w y H' x ry⟩
    | _ => exact z.elim) q⟩, gXf_mn A.mn⟩
end
end DL
/-! DR24 -/
set_option Elab.async false
set_option linter.all false
set_option maxRecDepth 100000
set_option maxHeartbeats 4000000
/-! isinstance of an error that is a value. -/
namespace DL
open PySem PySem.Spec PyProof.Rows L2
variable [TabC]
section
variable {X : Cx} {b : Option Addr} {H0 : Hp} {a c : Expr} {ga ge : GE} {pos p : Pos} {CL : List Str} {sub : Str → Bool}
def rIsX (K : Fg) : List V → Hp → VK → Prop := fun xs H Q => ∃ (a D dx : Addr) (fs : List (Str × V)) (c : V) (cv : Value) (r : Bool), xs = [.ref a, c] ∧ H a = some (exo a D (some dx)) ∧ H dx = some (exd dx fs) ∧ ExcC K D ∧ (∀ u, RelV c u → u = cv) ∧ PySem.W.kitOne K (.ref D) cv = some r ∧ Q (.bl r) H
theorem call_isX : CallR X (.builtin "isinstance") (rIsX X.K) := by
  intro pins s σ H xs us Q I r h
  obtain ⟨a, D, dx, fs, c, cv, b, rfl, ea, ed, C, hcv, e, q⟩ := h
  cases r with
  | cons rx rr =>
    cases rr with
    | cons rt rr =>
      cases rr
      cases rx
      have ec := hcv _ rt
      subst ec
      obtain ⟨t0, hoe⟩ := exo_at I.hok ea
      obtain ⟨mA, hns, hr⟩ := exd_at I.hok ed
      obtain ⟨od, ho, hl⟩ := lookIn_ns hns
      have J : PySem.W.InstAt s.heap a _ D (some od) := ⟨hoe, rfl, by unfold PySem.W.notCls; rfl, ho⟩
      exact PySem.W.kia_one (PySem.W.kitx_exc (by obtain ⟨cd, h, _⟩ := PySem.W.any_some C.hd; rw [h]; rfl) C.hg C.hk C.hs C.ha C.hn C.ht C.hm) I.kIn J e (fun z => nomatch z) fun tk => ⟨.bl b, H, I.kept (t' := tk) fun _ _ z => z, rfl, q⟩
def gIsiX (CL : List Str) (sub : Str → Bool) (ge : GE) : GE := fun σ k => ge σ fun d => match d with | .exc c _ _ => c ∈ CL ∧ k (.bl (sub c)) | _ => False
theorem gIsiX_mn (A : Mn ge) : Mn (gIsiX CL sub ge) := fun σ k k' h q => A _ _ _ (fun d z => by cases d <;> first | exact ⟨z.1, h _ z.2⟩ | exact z.elim) q
theorem de_isiX {v : V} {cv : Value} (W : ∀ c ∈ CL, ExcC X.K (He.ga X.K c) ∧ PySem.W.kitOne X.K (.ref (He.ga X.K c)) cv = some (sub c)) (hv : ∀ u, RelV v u → u = cv) (A : DE b H0 X a ga) (hc : PE X c (tC v)) (hg : Gl X "isinstance") (hm : X.mg "isinstance" = none)
    (he : starEach [a, c] X.env = (false, eval a X.env) :: starEach [c] X.env := by rfl) (he2 : starEach [c] X.env = (false, eval c X.env) :: starEach [] X.env := by rfl)
    (hpl : (backTo pos (starEach [c] X.env)).any (·.1) = false := by rfl) : DE b H0 X (.Call (.Name "isinstance" p) [a, c] [] pos) (gIsiX CL sub ga) := by
  refine ⟨pe_imp (pe_callB call_isX hg hm rfl (pa_cons A.pe (pa_cons hc pa_nil he2) he) (by decide) (by decide) he hpl) fun σ H Q ⟨σd, O, R, q⟩ => ?_, gIsiX_mn A.mn⟩
  refine ⟨σd, O, R, A.mn _ _ _ (fun d z w H' x r => ?_) q⟩
  cases d with
  | exc c ns ds =>
    obtain ⟨y, dx, vs, rfl, n1, n2, h1, h2, l, rs⟩ := r.exc
    exact ⟨y, _, dx, _, v, cv, sub c, rfl, (of_hide h1).2, (of_hide h2).2, (W c z.1).1, hv, (W c z.1).2, z.2 (.bl (sub c)) H' x rfl⟩
  | _ => exact z.elim
end
end DL
/-! DRK -/
set_option Elab.async false
set_option linter.all false
set_option maxRecDepth 100000
set_option maxHeartbeats 4000000
/-! The call of an own error's class with values by position and by name. -/
namespace PySem.DLx
open PySem.HandSPX Builtin Builtin.ObjectAttr PySem.W PyProof.Rows
section
variable {Pg : Program} {wd : World} {Ar : Around} {Ex : Value → Shared → Prop} {Rs : Result → Shared → Prop} {hp : Heap} {gs : Array GenState} {dw : Drawn} {tn : Nat} {oz : OsState}
variable {cn cq : Str} {C nsp fI : Addr} {bas mr tl : List Value} {hd ab : Bool} {sl : List Str} {subs us : List Value} {co : Option Bool} {da : Option Addr} {v0 v1 v2 v3 v5 : Option Value} {Bn nw ini : String} {kws : List (Str × Value)}
/-- the class, as it stands in the heap -/
abbrev ExAt (hp : Heap) (C : Addr) (cn cq : Str) (nsp : Addr) (bas mr : List Value) (hd : Bool) (sl : List Str) (subs : List Value) (ab : Bool) (co : Option Bool) (da : Option Addr) (v0 v1 v2 v3 v5 : Option Value) (nw : String) : Prop :=
  hp.get? C = some (excClassObj cn cq C nsp bas mr hd sl subs ab co da v0 v1 v2 v3 v5 nw)
/-- the heap behind the making: the tuple of what was handed, then the bare error -/
abbrev mkX (hp : Heap) (C : Addr) (us : List Value) : Heap := (hp.push (kdv_tup us)).push (excO C hp.objs.size)
theorem mro_has (F : ExcBaseFacts Bn nw ini tl) (hm : ∀ X : String, mr.contains (.type X) = tl.contains (.type X)) : (Value.ref C :: mr).contains (.type Bn) = true ∧ (Value.ref C :: mr).contains (.type "AttributeError") = false ∧ (Value.ref C :: mr).contains (.type "NameError") = false := by
  simp only [List.contains_cons, hm, F.hasB, F.noAttr, F.noName, Bool.or_true, true_and]
  exact ⟨rfl, rfl⟩
theorem chk_new {M : Model} (F : ExcBaseFacts Bn nw ini tl) (hm : ∀ X : String, mr.contains (.type X) = tl.contains (.type X)) (at_ : ExAt hp C cn cq nsp bas mr hd sl subs ab co da v0 v1 v2 v3 v5 nw) {G : Unit → Shared → Prop} (z : G () ⟨hp, gs, dw, tn, oz⟩) :
    wpAny M Ar (checkBuiltinCall nw ⟨.ref C :: us, kws⟩) G Ex ⟨hp, gs, dw, tn, oz⟩ := by
  have h1 := (mro_has (C := C) F hm).1
  have h2 := F.noStar
  simp only [checkBuiltinCall, F.newKind, F.newRow, F.newSplit]
  repeat
    first
    | refine wpAny_loadPart_at at_ ?_
    | refine wpAny_staticBase_exc at_ ?_
    | refine wpAny_madeBy_exc at_ ?_
    | (refine wpAny_isSubtype_exc at_ ?_
       rw [h1])
    | simp only [bne_self_eq_false, Bool.false_eq_true, if_false]
    | wp_step
  exact z
theorem run_new (F : ExcBaseFacts Bn nw ini tl) (hm : ∀ X : String, mr.contains (.type X) = tl.contains (.type X)) (at_ : ExAt hp C cn cq nsp bas mr hd sl subs ab co da v0 v1 v2 v3 v5 nw) (few : us.length ≤ sizeLine)
    (z : Rs (.ok (.ret (.ref (hp.objs.size + 1)))) ⟨mkX hp C us, gs, dw, tn, oz⟩) : codeAny (model Pg wd) Ar (.builtin nw ⟨.ref C :: us, kws⟩) Rs ⟨hp, gs, dw, tn, oz⟩ := by
  obtain ⟨i1, i2, i3⟩ := mro_has (C := C) F hm
  have e0 := F.ends
  refine codeAny_builtinAt F.entry ?_
  unfold Builtin.«BaseException.__new__»
  refine wpAt_bind ?_
  show wpAt _ _ _ (stack >>= _) _ _ _
  refine wpAt_bind (wpAt_stack fun q r => wpAt_of_wpAny ?_)
  wp_walk
  refine wpAt_of_wpAny ?_
  rw [F.owner]
  repeat
    first
    | with_reducible refine wpAny_loadPart_at at_ ?_
    | with_reducible refine wpAny_madeHere_exc F.canon at_ ?_
    | (with_reducible refine wpAny_isSubtype_exc at_ ?_
       first | rw [i1] | rw [i2] | rw [i3])
    | wp_step
  have e : ({ cls := .ref C, data := .fields #[.ref hp.objs.size, .none, .none, .none, .bool false, .none] } : Obj) = excO C hp.objs.size := rfl
  show Rs _ _
  rw [Heap.size_push]
  exact z
/-- type.__call__ at such a class -/
theorem run_type (F : ExcBaseFacts Bn nw ini tl) (hm : ∀ X : String, mr.contains (.type X) = tl.contains (.type X)) (at_ : ExAt hp C cn cq nsp bas mr hd sl subs ab co da v0 v1 v2 v3 v5 nw) {G : Fin → Shared → Prop} (li : Looks (model Pg wd) hp (typeLookup (.ref C) "__init__") (some (.ref fI)))
    (lb : ∀ me, Looks (model Pg wd) hp (bindSpecial (.ref fI) me) (.ref fI, [me])) (few : us.length ≤ sizeLine)
    (z : codeAny (model Pg wd) Ar (.call (.ref fI) ⟨.ref (hp.objs.size + 1) :: us, kws⟩) (fun r s' => match r with | .ok (.ret v) => v = .none ∧ G (.done (.ret (.ref (hp.objs.size + 1)))) s' | .ok _ => False | .error e => Ex e s') ⟨mkX hp C us, gs, dw, tn, oz⟩) :
    wpAny (model Pg wd) Ar (Builtin.«type.__call__» ⟨.ref C :: us, kws⟩) G Ex ⟨hp, gs, dw, tn, oz⟩ := by
  repeat
    first
    | with_reducible refine wpAny_madeBy_exc at_ ?_
    | with_reducible refine wpAny_loadPart_at at_ ?_
    | wp_step
  refine codeAny_call_builtin_code (Code.quiet_builtin _ F.quiet) (chk_new F hm at_ (run_new F hm at_ few ?_))
  show wpAny _ _ _ _ _ _
  have keep : ∀ a o, hp.get? a = some o → (mkX hp C us).get? a = some o := fun a o e => Heap.get?_push_of_some _ (Heap.get?_push_of_some _ e)
  have at2 := keep _ _ at_
  have got : (mkX hp C us).get? (hp.objs.size + 1) = some (excO C hp.objs.size) := by heap_get
  have me_ : (Value.ref C :: mr).contains (.ref C) = true := by simp
  have li2 := li.keeps keep
  have lb2 := (lb (.ref (hp.objs.size + 1))).keeps keep
  unfold isInstance
  repeat
    first
    | with_reducible refine wpAny_loadPart_at got ?_
    | (with_reducible refine wpAny_isSubtype_exc at2 ?_
       rw [me_])
    | wp_step
  show wpAny _ _ (typeLookup (.ref C) _) _ _ _
  refine li2.at (wpAny_holding (wpAny_bind (lb2.at (wpAny_bind (wpAny_call (codeAny_mono z fun r s' y => ?_))))))
  match r, y with
  | .error e, y => exact y
  | .ok (.ret v), ⟨ev, y⟩ =>
    subst ev
    first
      | exact wpAny_pure (wpAny_pure y)
      | (wp_walk; exact y)
theorem chk_type {M : Model} (at_ : ExAt hp C cn cq nsp bas mr hd sl subs ab co da v0 v1 v2 v3 v5 nw) {G : Unit → Shared → Prop} (z : G () ⟨hp, gs, dw, tn, oz⟩) : wpAny M Ar (checkBuiltinCall "type.__call__" ⟨.ref C :: us, kws⟩) G Ex ⟨hp, gs, dw, tn, oz⟩ := by
  have ty : (⟨hp, gs, dw, tn, oz⟩ : Shared).TypeIs (.ref C) "type" := ⟨_, at_, rfl⟩
  have sb := tc_sub
  simp only [checkBuiltinCall, tc_split, tc_kind]
  repeat
    any_goals
      first
      | assumption
      | with_reducible refine wpAny_map ?_
      | with_reducible refine wpAny_onRaise ?_
      | with_reducible refine wpAny_loadPart_at at_ ?_
      | wp_step
/-- an own error's class called, some values by name -/
theorem call_errK (F : ExcBaseFacts Bn nw ini tl) (hm : ∀ X : String, mr.contains (.type X) = tl.contains (.type X)) (at_ : ExAt hp C cn cq nsp bas mr hd sl subs ab co da v0 v1 v2 v3 v5 nw) (li : Looks (model Pg wd) hp (typeLookup (.ref C) "__init__") (some (.ref fI)))
    (lb : ∀ me, Looks (model Pg wd) hp (bindSpecial (.ref fI) me) (.ref fI, [me])) (few : us.length ≤ sizeLine)
    (z : codeAny (model Pg wd) (Ar.under (.builtin "type.__call__" ⟨.ref C :: us, kws⟩)) (.call (.ref fI) ⟨.ref (hp.objs.size + 1) :: us, kws⟩) (InitBack (hp.objs.size + 1) Rs) ⟨mkX hp C us, gs, dw, tn, oz⟩) :
    codeAny (model Pg wd) Ar (.call (.ref C) ⟨us, kws⟩) Rs ⟨hp, gs, dw, tn, oz⟩ := by
  have ty : (⟨hp, gs, dw, tn, oz⟩ : Shared).TypeIs (.ref C) "type" := ⟨_, at_, rfl⟩
  have lk := tc_lookup
  have bd := tc_bind (.ref C)
  refine codeAny_of_tree ?_
  show wpAny _ _ (callAny (.ref C) _) _ _ _
  repeat
    any_goals
      first
      | assumption
      | with_reducible refine wpAny_loadPart_at at_ ?_
      | wp_step
  refine ⟨rfl, codeAny_call_builtin_at (Code.quiet_builtin _ (by decide +kernel)) entry_typeCall (chk_type at_ (run_type F hm at_ li lb few (codeAny_mono z fun r s' y => ?_)))⟩
  match r, y with
  | .error _, y => exact y
  | .ok (.ret _), y => exact y
end
end PySem.DLx
/-! DR25 -/
set_option Elab.async false
set_option linter.all false
set_option maxRecDepth 100000
set_option maxHeartbeats 4000000
/-! An own error as a value, arguments by name. -/
namespace DL
open PySem PySem.Spec PyProof.Rows L2
variable [TabC]
section
variable {X : Cx} {eb : EB} {b : Option Addr} {H0 : Hp} {c code : Str} {flds ks : List Str} {ga : GA} {args : List Expr} {kws : List Keyword} {p pos : Pos} {x : Str} {k n : Nat} {fI C : Addr} {ix : List Nat} {dd : List D} {dvs : List V} {sp : Sp}
theorem run_excK {pins : List (Addr × Obj)} {σ : L2.St} {H1 : Hp} {s : Shared} {us kus : List Value} {vs : List V} {Q : VK} (T : OexE X.K eb C) (iC : PySem.W.findIn X.K (.ref C) "__init__" = some (some (.ref fI))) (tI : PySem.W.typeIn X.K (.ref fI) = some (.type "function"))
    (F : FnC X.prog X.w X.K X.mg X.base k fI ks sp) (hr : Room (k + 1) X.A) (hx : Passes (L2.CX X.prog X.w) X (fun _ _ _ => False)) (I1 : Inv X pins σ H1 s) (hk : kus.length = ks.length) (r : Vals vs (us ++ kus)) (hus : us.length ≤ sizeLine)
    (h : ∀ a, H1 a = none → sp (.ref a :: vs) (upd H1 a (exo a C none)) (fun v H2 => v = .non ∧ Q (.ref a) H2) (fun _ _ _ => False)) :
    wpAny (model X.prog X.w) X.A (call (.ref C) us (ks.zip kus)) (EP X pins σ Q) X.xe s := by
  obtain ⟨nm, q, N, bs, bm, sn, sub, ab, col, dd, k0, k1, k2, k3, k5, hC, hbm⟩ := T.cls
  obtain ⟨hp, g, dr, tk, os⟩ := s
  have hsz : hp.objs.size ≤ hp.objs.size + 1 := Nat.le_succ _
  have hn : H1 (hp.objs.size + 1) = none := I1.hok.fresh hsz
  have hq := h (hp.objs.size + 1) hn
  have kk : ∀ b o, hp.get? b = some o → ((hp.push (PySem.W.kdv_tup us)).push (PySem.HandSPX.excO C hp.objs.size)).get? b = some o := fun b o e => Heap.get?_push_of_some _ (Heap.get?_push_of_some _ e)
  have hget : ((hp.push (PySem.W.kdv_tup us)).push (PySem.HandSPX.excO C hp.objs.size)).get? (hp.objs.size + 1) = some (PySem.HandSPX.excO C hp.objs.size) := by heap_get
  have I2 : Inv X pins σ (upd H1 (hp.objs.size + 1) (exo (hp.objs.size + 1) C none)) ⟨(hp.push (PySem.W.kdv_tup us)).push (PySem.HandSPX.excO C hp.objs.size), g, dr, tk, os⟩ :=
    I1.laid (t' := tk) (a := hp.objs.size + 1) (o := exo (hp.objs.size + 1) C none) (h' := (hp.push (PySem.W.kdv_tup us)).push (PySem.HandSPX.excO C hp.objs.size)) kk hsz (exo_ok hget)
  have r2 : Vals (V.ref (hp.objs.size + 1) :: vs) ((Value.ref (hp.objs.size + 1) :: us) ++ kus) := .cons rfl r
  refine wpAny_call (PySem.DLx.call_errK (kws := ks.zip kus) eb.facts (fun Y => PySem.W.excTail_contains Y bm hbm) (I1.kIn _ _ hC) (PySem.W.looks_findIn I1.kIn iC) (fun self => PySem.W.bind_fn I1.kIn self tI) hus
    (codeAny_mono (F _ X.stack _ _ (Value.ref (hp.objs.size + 1) :: us) kus _ _ (fun _ _ _ => False) (hr.make C us (ks.zip kus)) (I2.env0.make C us (ks.zip kus)) hk r2 hq) fun r s' hq' => ?_))
  cases r with
  | error er => exact hx pins σ _ _ er s' I2 hq'
  | ok fl =>
    cases fl with
    | ret u =>
      obtain ⟨v, H2, os2, bare2, un2, hok2, rv, ev, q2⟩ := hq'
      subst ev
      exact ⟨rv, .ref (hp.objs.size + 1), H2, I2.call' os2 un2 hok2 bare2 (fun b z => nomatch z), rfl, q2⟩
    | next => exact False.elim hq'
    | brk => exact False.elim hq'
    | cont => exact False.elim hq'
/-- an own error, its arguments put in their places by ix, behind them the defaults -/
def gExcK (c code : Str) (flds : List Str) (n : Nat) (ix : List Nat) (dd : List D) (ga : GA) : GE := fun σ k => ga σ fun ds => ds.length = n ∧ n ≤ 900 ∧ (pick ix (ds ++ dd)).length = flds.length ∧ flds.length ≤ 900 ∧ k (.exc c (errNs flds) ((pick ix (ds ++ dd)).reverse ++ [.str code]))
theorem de_excK (T : ErrK X.K eb c fI flds) (F : FnC X.prog X.w X.K X.mg X.base k fI ks (fun vs H Q E => vs.length = n + 1 ∧ spErr (He.ga X.K c) code flds (pick (0 :: ix.map (· + 1)) (vs ++ dvs)) H Q E)) (hr : Room (k + 1) X.A) (hdd : ∀ b H, Reps X.K b H dd dvs)
    (hx : Passes (L2.CX X.prog X.w) X (fun _ _ _ => False)) (hg : Gl X x) (hm : X.mg x = some (.ref (He.ga X.K c))) (A : DCA b H0 X pos args kws ks ga) (hdb : (x == ("__debug__" : Str)) = false := by decide) :
    DE b H0 X (.Call (.Name x p) args kws pos) (gExcK c code flds n ix dd ga) := by
  refine ⟨⟨fun pins s σ H Q I ⟨σd, O, R, q⟩ => ?_⟩, fun σ k k' h q => A.mn _ _ _ (fun ds z => ⟨z.1, z.2.1, z.2.2.1, z.2.2.2.1, h _ z.2.2.2.2⟩) q⟩
  refine wpAny_Call_Name_kw (ld_glob I hg hm ?_ hdb)
  refine A.run pins s σ H (.ref (He.ga X.K c)) [] _ I T.C.T.kC ⟨σd, O, R, A.mn _ _ _ (fun ds z us kus vs H1 s1 I1 x1 hk r rp => ?_) q⟩
  obtain ⟨z1, z2, z3, z4, z5⟩ := z
  have lv : vs.length = us.length + kus.length := by
    have := r.length
    rw [List.length_append] at this
    exact this
  have ld : ds.length = vs.length := rp.length
  have hus : us.length ≤ sizeLine := by
    rw [sizeLine_eq]
    omega
  have e := exc_read (dd := []) (dvs := []) (ds := pick ix (ds ++ dd)) (vs := pick ix (vs ++ dvs)) T x1 R ((rp.append (hdd _ _)).pick ix) (fun _ _ => Reps.nil) (by rw [List.append_nil]; exact z3) (by omega) (by rw [List.append_nil]; exact z5)
  refine run_excK T.C.T T.iC T.tI F hr hx I1 hk r hus fun a ha => ⟨by rw [List.length_cons]; omega, ?_⟩
  rw [List.cons_append, pick_self]
  have w := e.2 a ha
  rw [List.append_nil] at w
  exact w
end
end DL
/-! DR26 -/
set_option Elab.async false
set_option linter.all false
set_option maxRecDepth 100000
set_option maxHeartbeats 4000000
/-! Errors as values: facts of the head, the shapes of their making, readings. -/
namespace DL
open PySem PySem.Spec PyProof.Rows L2
variable [TabC]
section
variable {P : Program} {w : World} {K : Fg} {mg : Str → Option Value} {base : Heap} {k n : Nat} {f : Addr} {fd : FuncData} {ps ks : List Str} {sp : Sp} {dvs : List V} {ix : List Nat}
theorem FnOk.ce (F : FnOk P w K mg base (L2.CX P w) k f fd ps sp) (hb : ∃ dus, Vals dvs dus ∧ Bnds K fd ps (n + 1) ks (0 :: ix.map (· + 1)) dus) :
    FnC P w K mg base k f ks (fun vs H Q E => vs.length = n + ks.length + 1 ∧ sp (pick (0 :: ix.map (· + 1)) (vs ++ dvs)) H Q E) := by
  obtain ⟨dus, hd, hb⟩ := hb
  exact (FnOk.c F (n + 1) ks _ hd hb).imp fun vs H Q E ⟨hl, h⟩ => ⟨by omega, h⟩
end
section
variable {K : Fg} {CL FL : List Str} {cv : Value} {sub : Str → Bool}
def xfokB (K : Fg) (CL FL : List Str) : Bool := CL.all fun c => xfB K (He.ga K c) && FL.all fun f => decide (PySem.W.findIn K (.ref (He.ga K c)) f = some none)
theorem xfokB_ok (h : xfokB K CL FL = true) : XfOk K CL FL := by
  have key := fun c hc => Bool.and_eq_true_iff.mp (List.all_eq_true.mp h c hc)
  exact ⟨fun c hc => xfB_ok (key c hc).1, fun c hc f hf => of_decide_eq_true (List.all_eq_true.mp (key c hc).2 f hf)⟩
def excB (K : Fg) (D : Addr) : Bool := xfB K D && (decide (PySem.W.findIn K (.ref D) "__class__" = some (some (.builtin "object.__class__"))) && (decide (PySem.W.specialIn K (.builtin "object.__class__") "__get__" = some (some (.builtin "getset_descriptor.__get__"))) && (decide (PySem.W.takesIn K (.builtin "object.__class__") = some true) && decide (PySem.W.mroIn K D (.type "object") = some true))))
theorem excB_ok {D : Addr} (h : excB K D = true) : ExcC K D := by
  obtain ⟨h1, h⟩ := Bool.and_eq_true_iff.mp h
  obtain ⟨h2, h⟩ := Bool.and_eq_true_iff.mp h
  obtain ⟨h3, h⟩ := Bool.and_eq_true_iff.mp h
  obtain ⟨h4, h5⟩ := Bool.and_eq_true_iff.mp h
  have x := xfB_ok h1
  exact ⟨x.ga, x.gg, x.exC, x.hdC, of_decide_eq_true h2, of_decide_eq_true h3, of_decide_eq_true h4, of_decide_eq_true h5⟩
def excsB (K : Fg) (CL : List Str) : Bool := CL.all fun c => excB K (He.ga K c)
theorem excsB_ok (h : excsB K CL = true) : ∀ c ∈ CL, ExcC K (He.ga K c) := fun c hc => excB_ok (List.all_eq_true.mp h c hc)
def isxB (K : Fg) (CL : List Str) (cv : Value) (sub : Str → Bool) : Bool := CL.all fun c => decide (PySem.W.kitOne K (.ref (He.ga K c)) cv = some (sub c))
theorem isxB_ok (h : isxB K CL cv sub = true) : ∀ c ∈ CL, PySem.W.kitOne K (.ref (He.ga K c)) cv = some (sub c) := fun c hc => of_decide_eq_true (List.all_eq_true.mp h c hc)
/-- which classes stand below one of a list -/
def inE (l : List Str) (c : Str) : Bool := decide (c ∈ l)
end
section
variable {CL : List Str} {sub : Str → Bool} {g : GE} {ga : GA} {σ : StD} {c code m : Str} {ns flds : List Str} {ds dd : List D} {d : D} {i n : Nat} {ix : List Nat}
theorem ev_isX (h : Ev g σ (.exc c ns ds)) (hc : c ∈ CL) : Ev (gIsiX CL sub g) σ (.bl (sub c)) := .mk fun k q => h.run _ ⟨hc, q⟩
theorem ev_xf (h : Ev g σ (.exc c ns ds)) (hc : c ∈ CL) (nd : ns.Nodup) (e1 : ns[i]? = some m) (e2 : ds[i]? = some d) : Ev (gXf CL m g) σ d := .mk fun k q => h.run _ ⟨hc, nd, i, e1, by rw [e2]; exact q⟩
theorem ev_exc (h : EvA ga σ ds) (h1 : ds.length = n) (h2 : n ≤ 900) (h3 : (pick ix (ds ++ dd)).length = flds.length) (h4 : flds.length ≤ 900) : Ev (gExcK c code flds n ix dd ga) σ (.exc c (errNs flds) ((pick ix (ds ++ dd)).reverse ++ [.str code])) := .mk fun k q => h.run _ ⟨h1, h2, h3, h4, q⟩
end
end DL
/-! K01H -/
set_option Elab.async false
set_option linter.all false
set_option maxRecDepth 100000
set_option maxHeartbeats 0
namespace LK
open PySem PySem.Spec PyProof.Rows L2 DL
def top (i : Nat) : Stmt := PySem.Challenge.pw_anystride_k01_errors_by_themselves.main.body.getD i (.Pass ⟨0, 0, 0, 0⟩)
def clsBody (s : Stmt) : List Stmt := match s with
  | .ClassDef (body := b) .. => b
  | _ => []
def mth (i j : Nat) : Stmt := (clsBody (top i)).getD j (.Pass ⟨0, 0, 0, 0⟩)
def dd__law_bag : He.DefD := ⟨("_law_bag", none), "_law_bag", "_law_bag", defArgs (top 30), defBody (top 30), defScope (top 30), [], []⟩
def dd__law_draw : He.DefD := ⟨("_law_draw", none), "_law_draw", "_law_draw", defArgs (top 31), defBody (top 31), defScope (top 31), [], []⟩
def dd__law_of : He.DefD := ⟨("_law_of", none), "_law_of", "_law_of", defArgs (top 32), defBody (top 32), defScope (top 32), [], []⟩
def dd__law_codes : He.DefD := ⟨("_law_codes", none), "_law_codes", "_law_codes", defArgs (top 35), defBody (top 35), defScope (top 35), [], []⟩
def dd_InvalidName_init : He.DefD := ⟨("InvalidName", some "__init__"), "__init__", "InvalidName.__init__", defArgs (mth 9 0), defBody (mth 9 0), defScope (mth 9 0), [], []⟩
def dd_InvalidRows_init : He.DefD := ⟨("InvalidRows", some "__init__"), "__init__", "InvalidRows.__init__", defArgs (mth 8 0), defBody (mth 8 0), defScope (mth 8 0), [], []⟩
def dd_InvalidTurns_init : He.DefD := ⟨("InvalidTurns", some "__init__"), "__init__", "InvalidTurns.__init__", defArgs (mth 7 0), defBody (mth 7 0), defScope (mth 7 0), [], []⟩
def dd_InvalidKind_init : He.DefD := ⟨("InvalidKind", some "__init__"), "__init__", "InvalidKind.__init__", defArgs (mth 6 0), defBody (mth 6 0), defScope (mth 6 0), [], []⟩
def dd_InvalidTable_init : He.DefD := ⟨("InvalidTable", some "__init__"), "__init__", "InvalidTable.__init__", defArgs (mth 5 0), defBody (mth 5 0), defScope (mth 5 0), [], []⟩
def dd_InvalidPlaces_init : He.DefD := ⟨("InvalidPlaces", some "__init__"), "__init__", "InvalidPlaces.__init__", defArgs (mth 4 0), defBody (mth 4 0), defScope (mth 4 0), [], []⟩
def dd_InvalidNumber_init : He.DefD := ⟨("InvalidNumber", some "__init__"), "__init__", "InvalidNumber.__init__", defArgs (mth 3 0), defBody (mth 3 0), defScope (mth 3 0), [], []⟩
def dd_InvalidLimit_init : He.DefD := ⟨("InvalidLimit", some "__init__"), "__init__", "InvalidLimit.__init__", defArgs (mth 15 0), defBody (mth 15 0), defScope (mth 15 0), [], []⟩
def dd_InvalidPage_init : He.DefD := ⟨("InvalidPage", some "__init__"), "__init__", "InvalidPage.__init__", defArgs (mth 14 0), defBody (mth 14 0), defScope (mth 14 0), [], []⟩
def dd_InvalidCommand_init : He.DefD := ⟨("InvalidCommand", some "__init__"), "__init__", "InvalidCommand.__init__", defArgs (mth 13 0), defBody (mth 13 0), defScope (mth 13 0), [], []⟩
def dd_InvalidLine_init : He.DefD := ⟨("InvalidLine", some "__init__"), "__init__", "InvalidLine.__init__", defArgs (mth 12 0), defBody (mth 12 0), defScope (mth 12 0), [], []⟩
def dd_InvalidSign_init : He.DefD := ⟨("InvalidSign", some "__init__"), "__init__", "InvalidSign.__init__", defArgs (mth 11 0), defBody (mth 11 0), defScope (mth 11 0), [], []⟩
def dd_InvalidText_init : He.DefD := ⟨("InvalidText", some "__init__"), "__init__", "InvalidText.__init__", defArgs (mth 10 0), defBody (mth 10 0), defScope (mth 10 0), [], []⟩
def dd_NotPlane_init : He.DefD := ⟨("NotPlane", some "__init__"), "__init__", "NotPlane.__init__", defArgs (mth 23 0), defBody (mth 23 0), defScope (mth 23 0), [], []⟩
def dd_Mismatch_init : He.DefD := ⟨("Mismatch", some "__init__"), "__init__", "Mismatch.__init__", defArgs (mth 22 0), defBody (mth 22 0), defScope (mth 22 0), [], []⟩
def dd_WrongSort_init : He.DefD := ⟨("WrongSort", some "__init__"), "__init__", "WrongSort.__init__", defArgs (mth 21 0), defBody (mth 21 0), defScope (mth 21 0), [], []⟩
def dd_WrongKind_init : He.DefD := ⟨("WrongKind", some "__init__"), "__init__", "WrongKind.__init__", defArgs (mth 20 0), defBody (mth 20 0), defScope (mth 20 0), [], []⟩
def dd_TooMany_init : He.DefD := ⟨("TooMany", some "__init__"), "__init__", "TooMany.__init__", defArgs (mth 19 0), defBody (mth 19 0), defScope (mth 19 0), [.str "arrows"], []⟩
def dd_Full_init : He.DefD := ⟨("Full", some "__init__"), "__init__", "Full.__init__", defArgs (mth 18 0), defBody (mth 18 0), defScope (mth 18 0), [], []⟩
def dd_InUse_init : He.DefD := ⟨("InUse", some "__init__"), "__init__", "InUse.__init__", defArgs (mth 17 0), defBody (mth 17 0), defScope (mth 17 0), [], []⟩
def dd_DuplicateName_init : He.DefD := ⟨("DuplicateName", some "__init__"), "__init__", "DuplicateName.__init__", defArgs (mth 16 0), defBody (mth 16 0), defScope (mth 16 0), [], []⟩
def dd_NothingLeft_init : He.DefD := ⟨("NothingLeft", some "__init__"), "__init__", "NothingLeft.__init__", defArgs (mth 28 0), defBody (mth 28 0), defScope (mth 28 0), [], []⟩
def dd_UnknownName_init : He.DefD := ⟨("UnknownName", some "__init__"), "__init__", "UnknownName.__init__", defArgs (mth 27 0), defBody (mth 27 0), defScope (mth 27 0), [], []⟩
def dd_Unfit_init : He.DefD := ⟨("Unfit", some "__init__"), "__init__", "Unfit.__init__", defArgs (mth 26 0), defBody (mth 26 0), defScope (mth 26 0), [], []⟩
def dd_ZeroDivisor_init : He.DefD := ⟨("ZeroDivisor", some "__init__"), "__init__", "ZeroDivisor.__init__", defArgs (mth 25 0), defBody (mth 25 0), defScope (mth 25 0), [], []⟩
def dd_NotEven_init : He.DefD := ⟨("NotEven", some "__init__"), "__init__", "NotEven.__init__", defArgs (mth 24 0), defBody (mth 24 0), defScope (mth 24 0), [], []⟩
def dd__law_errors : He.DefD := ⟨("_law_errors", none), "_law_errors", "_law_errors", defArgs (top 36), defBody (top 36), defScope (top 36), [], []⟩
def dd__law_sorts : He.DefD := ⟨("_law_sorts", none), "_law_sorts", "_law_sorts", defArgs (top 38), defBody (top 38), defScope (top 38), [], []⟩
def dd__law_field : He.DefD := ⟨("_law_field", none), "_law_field", "_law_field", defArgs (top 34), defBody (top 34), defScope (top 34), [], []⟩
def dd__law_same : He.DefD := ⟨("_law_same", none), "_law_same", "_law_same", defArgs (top 33), defBody (top 33), defScope (top 33), [], []⟩
def dd__law_named : He.DefD := ⟨("_law_named", none), "_law_named", "_law_named", defArgs (top 37), defBody (top 37), defScope (top 37), [], []⟩
def dd_law : He.DefD := ⟨("law", none), "law", "law", defArgs (top 39), defBody (top 39), defScope (top 39), [], []⟩
def fs : List He5.DefA := []
def fn : List He.DefD := [dd__law_bag, dd__law_draw, dd__law_of, dd__law_codes, dd_InvalidName_init, dd_InvalidRows_init, dd_InvalidTurns_init, dd_InvalidKind_init, dd_InvalidTable_init, dd_InvalidPlaces_init, dd_InvalidNumber_init, dd_InvalidLimit_init, dd_InvalidPage_init, dd_InvalidCommand_init, dd_InvalidLine_init, dd_InvalidSign_init, dd_InvalidText_init, dd_NotPlane_init, dd_Mismatch_init, dd_WrongSort_init, dd_WrongKind_init, dd_TooMany_init, dd_Full_init, dd_InUse_init, dd_DuplicateName_init, dd_NothingLeft_init, dd_UnknownName_init, dd_Unfit_init, dd_ZeroDivisor_init, dd_NotEven_init, dd__law_errors, dd__law_sorts, dd__law_field, dd__law_same, dd__law_named, dd_law]
def fa : List He.Fa := [.glo "_law_bag",
  .glo "_law_draw",
  .glo "_law_of",
  .glo "_law_codes",
  .glo "_law_errors",
  .glo "_law_sorts",
  .glo "_law_field",
  .glo "_law_same",
  .glo "_law_named",
  .glo "law",
  .glo "InvalidName",
  .glo "StrideError",
  .glo "InvalidRows",
  .glo "InvalidTurns",
  .glo "InvalidKind",
  .glo "InvalidTable",
  .glo "InvalidPlaces",
  .glo "InvalidNumber",
  .glo "InvalidLimit",
  .glo "InvalidPage",
  .glo "InvalidCommand",
  .glo "InvalidLine",
  .glo "InvalidSign",
  .glo "InvalidText",
  .glo "NotPlane",
  .glo "Mismatch",
  .glo "WrongSort",
  .glo "WrongKind",
  .glo "TooMany",
  .glo "Full",
  .glo "InUse",
  .glo "DuplicateName",
  .glo "NothingLeft",
  .glo "UnknownName",
  .glo "Missing",
  .glo "Unfit",
  .glo "ZeroDivisor",
  .glo "NotEven",
  .free "int",
  .free "len",
  .free "IndexError",
  .free "enumerate",
  .free "isinstance",
  .free "range",
  .free "bool",
  .free "str",
  .free "dict",
  .free "tuple",
  .free "list",
  .free "zip",
  .free "all",
  .free "LookupError",
  .free "ValueError"]
def tf : List He.Defn := []
abbrev CLS : List Str := []
def subC (c C : Str) : Bool := decide (c = C)
abbrev EXC : List Str := ["InvalidNumber", "InvalidPlaces", "InvalidTable", "InvalidKind", "InvalidTurns", "InvalidRows", "InvalidName", "InvalidText", "InvalidSign", "InvalidLine", "InvalidCommand", "InvalidPage", "InvalidLimit", "DuplicateName", "InUse", "Full", "TooMany", "WrongKind", "WrongSort", "Mismatch", "NotPlane", "NotEven", "ZeroDivisor", "Unfit", "UnknownName", "NothingLeft"]
abbrev EFL : List Str := ["at", "code", "given", "limit", "line", "most", "name", "subject", "users", "word"]
def exs (K : Fg) : List Bool := [clsB K CLS subC,
  baseB K .ve (He.ga K "StrideError"),
  baseB K .le (He.ga K "Missing"),
  ieB K,
  errB K .ve "InvalidName" ["name"],
  errB K .ve "InvalidRows" ["at"],
  errB K .ve "InvalidTurns" ["at"],
  errB K .ve "InvalidKind" ["given"],
  errB K .ve "InvalidTable" ["given"],
  errB K .ve "InvalidPlaces" ["at"],
  errB K .ve "InvalidNumber" ["given"],
  errB K .ve "InvalidLimit" ["given"],
  errB K .ve "InvalidPage" ["line"],
  errB K .ve "InvalidCommand" ["at"],
  errB K .ve "InvalidLine" ["line"],
  errB K .ve "InvalidSign" ["given"],
  errB K .ve "InvalidText" ["given"],
  errB K .ve "NotPlane" [],
  errB K .ve "Mismatch" [],
  errB K .ve "WrongSort" ["name"],
  errB K .ve "WrongKind" ["word"],
  errB K .ve "TooMany" ["most", "subject"],
  errB K .ve "Full" ["limit"],
  errB K .ve "InUse" ["name", "users"],
  errB K .ve "DuplicateName" ["name"],
  errB K .ie "NothingLeft" [],
  errB K .le "UnknownName" ["name"],
  errB K .ve "Unfit" [],
  errB K .ve "ZeroDivisor" [],
  errB K .ve "NotEven" [],
  excsB K EXC,
  isxB K EXC (.ref (He.ga K "InvalidKind")) (inE ["InvalidKind"]),
  isxB K EXC (.ref (He.ga K "InvalidTable")) (inE ["InvalidTable"]),
  isxB K EXC (.ref (He.ga K "InvalidPlaces")) (inE ["InvalidPlaces"]),
  isxB K EXC (.ref (He.ga K "InvalidNumber")) (inE ["InvalidNumber"]),
  isxB K EXC (.ref (He.ga K "InvalidText")) (inE ["InvalidText"]),
  isxB K EXC (.ref (He.ga K "InvalidName")) (inE ["InvalidName"]),
  isxB K EXC (.ref (He.ga K "InvalidRows")) (inE ["InvalidRows"]),
  isxB K EXC (.ref (He.ga K "InvalidTurns")) (inE ["InvalidTurns"]),
  isxB K EXC (.ref (He.ga K "InvalidPage")) (inE ["InvalidPage"]),
  isxB K EXC (.ref (He.ga K "InvalidCommand")) (inE ["InvalidCommand"]),
  isxB K EXC (.ref (He.ga K "InvalidLine")) (inE ["InvalidLine"]),
  isxB K EXC (.ref (He.ga K "InvalidSign")) (inE ["InvalidSign"]),
  isxB K EXC (.ref (He.ga K "Full")) (inE ["Full"]),
  isxB K EXC (.ref (He.ga K "InUse")) (inE ["InUse"]),
  isxB K EXC (.ref (He.ga K "DuplicateName")) (inE ["DuplicateName"]),
  isxB K EXC (.ref (He.ga K "InvalidLimit")) (inE ["InvalidLimit"]),
  isxB K EXC (.ref (He.ga K "Mismatch")) (inE ["Mismatch"]),
  isxB K EXC (.ref (He.ga K "WrongSort")) (inE ["WrongSort"]),
  isxB K EXC (.ref (He.ga K "WrongKind")) (inE ["WrongKind"]),
  isxB K EXC (.ref (He.ga K "TooMany")) (inE ["TooMany"]),
  isxB K EXC (.ref (He.ga K "Unfit")) (inE ["Unfit"]),
  isxB K EXC (.ref (He.ga K "ZeroDivisor")) (inE ["ZeroDivisor"]),
  isxB K EXC (.ref (He.ga K "NotEven")) (inE ["NotEven"]),
  isxB K EXC (.ref (He.ga K "NotPlane")) (inE ["NotPlane"]),
  isxB K EXC (.ref (He.ga K "NothingLeft")) (inE ["NothingLeft"]),
  isxB K EXC (.ref (He.ga K "UnknownName")) (inE ["UnknownName"]),
  xfokB K EXC EFL,
  isxB K EXC (.type "IndexError") (inE ["NothingLeft"]),
  isxB K EXC (.type "LookupError") (inE ["UnknownName", "NothingLeft"]),
  isxB K EXC (.ref (He.ga K "Missing")) (inE ["UnknownName"]),
  isxB K EXC (.type "ValueError") (inE ["InvalidNumber", "InvalidPlaces", "InvalidTable", "InvalidKind", "InvalidTurns", "InvalidRows", "InvalidName", "InvalidText", "InvalidSign", "InvalidLine", "InvalidCommand", "InvalidPage", "InvalidLimit", "DuplicateName", "InUse", "Full", "TooMany", "WrongKind", "WrongSort", "Mismatch", "NotPlane", "NotEven", "ZeroDivisor", "Unfit"]),
  isxB K EXC (.ref (He.ga K "StrideError")) (inE ["InvalidNumber", "InvalidPlaces", "InvalidTable", "InvalidKind", "InvalidTurns", "InvalidRows", "InvalidName", "InvalidText", "InvalidSign", "InvalidLine", "InvalidCommand", "InvalidPage", "InvalidLimit", "DuplicateName", "InUse", "Full", "TooMany", "WrongKind", "WrongSort", "Mismatch", "NotPlane", "NotEven", "ZeroDivisor", "Unfit"])]
def exB (K : Fg) : Bool := (exs K).all id
abbrev R : PySem.W.OpenRow := PySem.W.OpenLaw.row PySem.Challenge.rw_anystride_k01_errors_by_themselves
def AS : List Addr := [2, 3, 6, 4, 24, 37, 57, 76, 95, 114, 133, 152, 171, 190, 209, 228, 247, 266, 285, 304, 323, 342, 362, 381, 400, 419, 438, 457, 476, 495, 514, 533, 541, 548, 555, 560, 567, 574, 581, 588, 595, 600, 0, 23, 36, 56, 75, 94, 113, 132, 151, 170, 189, 208, 227, 246, 265, 284, 303, 322, 341, 361, 380, 399, 418, 437, 456, 475, 494, 513, 532, 540, 547, 554, 559, 566, 573, 580, 587, 594, 599, 22, 25, 35, 38, 54, 55, 73, 74, 92, 93, 111, 112, 130, 131, 149, 150, 168, 169, 187, 188, 206, 207, 225, 226, 244, 245, 263, 264, 282, 283, 301, 302, 320, 321, 339, 340, 359, 360, 378, 379, 397, 398, 416, 417, 435, 436, 454, 455, 473, 474, 492, 493, 511, 512, 530, 531, 534, 537, 538, 539, 542, 543, 544, 545, 546, 549, 550, 551, 552, 553, 556, 557, 558, 561, 562, 563, 564, 565, 568, 569, 570, 571, 572, 575, 576, 577, 578, 579, 582, 583, 584, 585, 586, 589, 590, 591, 592, 593, 596, 597, 598, 53, 72, 91, 110, 129, 148, 167, 186, 205, 224, 243, 262, 281, 300, 319, 338, 358, 352, 377, 396, 415, 434, 453, 472, 491, 510, 529, 48, 49, 50, 51, 52, 67, 68, 69, 70, 71, 86, 87, 88, 89, 90, 105, 106, 107, 108, 109, 124, 125, 126, 127, 128, 143, 144, 145, 146, 147, 162, 163, 164, 165, 166, 181, 182, 183, 184, 185, 200, 201, 202, 203, 204, 219, 220, 221, 222, 223, 238, 239, 240, 241, 242, 257, 258, 259, 260, 261, 276, 277, 278, 279, 280, 295, 296, 297, 298, 299, 314, 315, 316, 317, 318, 333, 334, 335, 336, 337, 353, 354, 355, 356, 357, 372, 373, 374, 375, 376, 391, 392, 393, 394, 395, 410, 411, 412, 413, 414, 429, 430, 431, 432, 433, 448, 449, 450, 451, 452, 467, 468, 469, 470, 471, 486, 487, 488, 489, 490, 505, 506, 507, 508, 509, 524, 525, 526, 527, 528]
def ss : List (He.DefD × Str) := []
abbrev hk : PySem.W.Hook := He.hookR AS fa fn fs ss [] tf exB
def ob (s : PySem.W.SharedT) : (He.AlX × He.AlD) × He.AlS := He.obsR AS fa fn fs ss [] tf exB (HandSHeadRun.getT s)
theorem ob_eq (s : PySem.W.SharedT) : ob s = hk.obs s.abs := He.obsR_eq (HandSHeadRun.getT_eq s)
def names0 : List PySem.Str := ["StrideError", "Missing", "InvalidNumber", "InvalidPlaces", "InvalidTable", "InvalidKind", "InvalidTurns", "InvalidRows", "InvalidName", "InvalidText", "InvalidSign", "InvalidLine", "InvalidCommand", "InvalidPage", "InvalidLimit", "DuplicateName", "InUse", "Full", "TooMany", "WrongKind", "WrongSort", "Mismatch", "NotPlane", "NotEven", "ZeroDivisor", "Unfit", "UnknownName", "NothingLeft", "_law_bag", "_law_draw"]
def names1 : List PySem.Str := ["_law_of", "_law_same", "_law_field", "_law_codes", "_law_errors", "_law_named", "_law_sorts"]
def names : List PySem.Str := names0 ++ names1
theorem run (w : World) : HandSHeadRun.RunEqI R (PySem.W.view R.prog [39]) hk ob 20000 names w := by
  unfold HandSHeadRun.RunEqI
  kernel_rfl
end LK
/-! K01F -/
set_option Elab.async false
set_option linter.all false
set_option maxRecDepth 100000
set_option maxHeartbeats 4000000
namespace LK
open PySem PySem.Spec PyProof.Rows L2 DL
variable [TabC]
structure Facts (K : Fg) (mg : Str → Option Value) : Prop where
  g__law_bag : mg "_law_bag" = some (.ref (He.ga K "_law_bag"))
  g__law_draw : mg "_law_draw" = some (.ref (He.ga K "_law_draw"))
  g__law_of : mg "_law_of" = some (.ref (He.ga K "_law_of"))
  g__law_codes : mg "_law_codes" = some (.ref (He.ga K "_law_codes"))
  g__law_errors : mg "_law_errors" = some (.ref (He.ga K "_law_errors"))
  g__law_sorts : mg "_law_sorts" = some (.ref (He.ga K "_law_sorts"))
  g__law_field : mg "_law_field" = some (.ref (He.ga K "_law_field"))
  g__law_same : mg "_law_same" = some (.ref (He.ga K "_law_same"))
  g__law_named : mg "_law_named" = some (.ref (He.ga K "_law_named"))
  g_law : mg "law" = some (.ref (He.ga K "law"))
  g_InvalidName : mg "InvalidName" = some (.ref (He.ga K "InvalidName"))
  g_StrideError : mg "StrideError" = some (.ref (He.ga K "StrideError"))
  g_InvalidRows : mg "InvalidRows" = some (.ref (He.ga K "InvalidRows"))
  g_InvalidTurns : mg "InvalidTurns" = some (.ref (He.ga K "InvalidTurns"))
  g_InvalidKind : mg "InvalidKind" = some (.ref (He.ga K "InvalidKind"))
  g_InvalidTable : mg "InvalidTable" = some (.ref (He.ga K "InvalidTable"))
  g_InvalidPlaces : mg "InvalidPlaces" = some (.ref (He.ga K "InvalidPlaces"))
  g_InvalidNumber : mg "InvalidNumber" = some (.ref (He.ga K "InvalidNumber"))
  g_InvalidLimit : mg "InvalidLimit" = some (.ref (He.ga K "InvalidLimit"))
  g_InvalidPage : mg "InvalidPage" = some (.ref (He.ga K "InvalidPage"))
  g_InvalidCommand : mg "InvalidCommand" = some (.ref (He.ga K "InvalidCommand"))
  g_InvalidLine : mg "InvalidLine" = some (.ref (He.ga K "InvalidLine"))
  g_InvalidSign : mg "InvalidSign" = some (.ref (He.ga K "InvalidSign"))
  g_InvalidText : mg "InvalidText" = some (.ref (He.ga K "InvalidText"))
  g_NotPlane : mg "NotPlane" = some (.ref (He.ga K "NotPlane"))
  g_Mismatch : mg "Mismatch" = some (.ref (He.ga K "Mismatch"))
  g_WrongSort : mg "WrongSort" = some (.ref (He.ga K "WrongSort"))
  g_WrongKind : mg "WrongKind" = some (.ref (He.ga K "WrongKind"))
  g_TooMany : mg "TooMany" = some (.ref (He.ga K "TooMany"))
  g_Full : mg "Full" = some (.ref (He.ga K "Full"))
  g_InUse : mg "InUse" = some (.ref (He.ga K "InUse"))
  g_DuplicateName : mg "DuplicateName" = some (.ref (He.ga K "DuplicateName"))
  g_NothingLeft : mg "NothingLeft" = some (.ref (He.ga K "NothingLeft"))
  g_UnknownName : mg "UnknownName" = some (.ref (He.ga K "UnknownName"))
  g_Missing : mg "Missing" = some (.ref (He.ga K "Missing"))
  g_Unfit : mg "Unfit" = some (.ref (He.ga K "Unfit"))
  g_ZeroDivisor : mg "ZeroDivisor" = some (.ref (He.ga K "ZeroDivisor"))
  g_NotEven : mg "NotEven" = some (.ref (He.ga K "NotEven"))
  n_int : mg "int" = none
  n_len : mg "len" = none
  n_IndexError : mg "IndexError" = none
  n_enumerate : mg "enumerate" = none
  n_isinstance : mg "isinstance" = none
  n_range : mg "range" = none
  n_bool : mg "bool" = none
  n_str : mg "str" = none
  n_dict : mg "dict" = none
  n_tuple : mg "tuple" = none
  n_list : mg "list" = none
  n_zip : mg "zip" = none
  n_all : mg "all" = none
  n_LookupError : mg "LookupError" = none
  n_ValueError : mg "ValueError" = none
  d__law_bag : FunD K "_law_bag" "_law_bag" (defArgs (top 30)) (defBody (top 30)) (defScope (top 30)) [] [] (He.ga K "_law_bag") (fdOf K (He.ga K "_law_bag"))
  d__law_draw : FunD K "_law_draw" "_law_draw" (defArgs (top 31)) (defBody (top 31)) (defScope (top 31)) [] [] (He.ga K "_law_draw") (fdOf K (He.ga K "_law_draw"))
  d__law_of : FunD K "_law_of" "_law_of" (defArgs (top 32)) (defBody (top 32)) (defScope (top 32)) [] [] (He.ga K "_law_of") (fdOf K (He.ga K "_law_of"))
  d__law_codes : FunD K "_law_codes" "_law_codes" (defArgs (top 35)) (defBody (top 35)) (defScope (top 35)) [] [] (He.ga K "_law_codes") (fdOf K (He.ga K "_law_codes"))
  d_InvalidName_init : FunD K "__init__" "InvalidName.__init__" (defArgs (mth 9 0)) (defBody (mth 9 0)) (defScope (mth 9 0)) [] [] (He.ma K (He.ga K "InvalidName") "__init__") (fdOf K (He.ma K (He.ga K "InvalidName") "__init__"))
  d_InvalidRows_init : FunD K "__init__" "InvalidRows.__init__" (defArgs (mth 8 0)) (defBody (mth 8 0)) (defScope (mth 8 0)) [] [] (He.ma K (He.ga K "InvalidRows") "__init__") (fdOf K (He.ma K (He.ga K "InvalidRows") "__init__"))
  d_InvalidTurns_init : FunD K "__init__" "InvalidTurns.__init__" (defArgs (mth 7 0)) (defBody (mth 7 0)) (defScope (mth 7 0)) [] [] (He.ma K (He.ga K "InvalidTurns") "__init__") (fdOf K (He.ma K (He.ga K "InvalidTurns") "__init__"))
  d_InvalidKind_init : FunD K "__init__" "InvalidKind.__init__" (defArgs (mth 6 0)) (defBody (mth 6 0)) (defScope (mth 6 0)) [] [] (He.ma K (He.ga K "InvalidKind") "__init__") (fdOf K (He.ma K (He.ga K "InvalidKind") "__init__"))
  d_InvalidTable_init : FunD K "__init__" "InvalidTable.__init__" (defArgs (mth 5 0)) (defBody (mth 5 0)) (defScope (mth 5 0)) [] [] (He.ma K (He.ga K "InvalidTable") "__init__") (fdOf K (He.ma K (He.ga K "InvalidTable") "__init__"))
  d_InvalidPlaces_init : FunD K "__init__" "InvalidPlaces.__init__" (defArgs (mth 4 0)) (defBody (mth 4 0)) (defScope (mth 4 0)) [] [] (He.ma K (He.ga K "InvalidPlaces") "__init__") (fdOf K (He.ma K (He.ga K "InvalidPlaces") "__init__"))
  d_InvalidNumber_init : FunD K "__init__" "InvalidNumber.__init__" (defArgs (mth 3 0)) (defBody (mth 3 0)) (defScope (mth 3 0)) [] [] (He.ma K (He.ga K "InvalidNumber") "__init__") (fdOf K (He.ma K (He.ga K "InvalidNumber") "__init__"))
  d_InvalidLimit_init : FunD K "__init__" "InvalidLimit.__init__" (defArgs (mth 15 0)) (defBody (mth 15 0)) (defScope (mth 15 0)) [] [] (He.ma K (He.ga K "InvalidLimit") "__init__") (fdOf K (He.ma K (He.ga K "InvalidLimit") "__init__"))
  d_InvalidPage_init : FunD K "__init__" "InvalidPage.__init__" (defArgs (mth 14 0)) (defBody (mth 14 0)) (defScope (mth 14 0)) [] [] (He.ma K (He.ga K "InvalidPage") "__init__") (fdOf K (He.ma K (He.ga K "InvalidPage") "__init__"))
  d_InvalidCommand_init : FunD K "__init__" "InvalidCommand.__init__" (defArgs (mth 13 0)) (defBody (mth 13 0)) (defScope (mth 13 0)) [] [] (He.ma K (He.ga K "InvalidCommand") "__init__") (fdOf K (He.ma K (He.ga K "InvalidCommand") "__init__"))
  d_InvalidLine_init : FunD K "__init__" "InvalidLine.__init__" (defArgs (mth 12 0)) (defBody (mth 12 0)) (defScope (mth 12 0)) [] [] (He.ma K (He.ga K "InvalidLine") "__init__") (fdOf K (He.ma K (He.ga K "InvalidLine") "__init__"))
  d_InvalidSign_init : FunD K "__init__" "InvalidSign.__init__" (defArgs (mth 11 0)) (defBody (mth 11 0)) (defScope (mth 11 0)) [] [] (He.ma K (He.ga K "InvalidSign") "__init__") (fdOf K (He.ma K (He.ga K "InvalidSign") "__init__"))
  d_InvalidText_init : FunD K "__init__" "InvalidText.__init__" (defArgs (mth 10 0)) (defBody (mth 10 0)) (defScope (mth 10 0)) [] [] (He.ma K (He.ga K "InvalidText") "__init__") (fdOf K (He.ma K (He.ga K "InvalidText") "__init__"))
  d_NotPlane_init : FunD K "__init__" "NotPlane.__init__" (defArgs (mth 23 0)) (defBody (mth 23 0)) (defScope (mth 23 0)) [] [] (He.ma K (He.ga K "NotPlane") "__init__") (fdOf K (He.ma K (He.ga K "NotPlane") "__init__"))
  d_Mismatch_init : FunD K "__init__" "Mismatch.__init__" (defArgs (mth 22 0)) (defBody (mth 22 0)) (defScope (mth 22 0)) [] [] (He.ma K (He.ga K "Mismatch") "__init__") (fdOf K (He.ma K (He.ga K "Mismatch") "__init__"))
  d_WrongSort_init : FunD K "__init__" "WrongSort.__init__" (defArgs (mth 21 0)) (defBody (mth 21 0)) (defScope (mth 21 0)) [] [] (He.ma K (He.ga K "WrongSort") "__init__") (fdOf K (He.ma K (He.ga K "WrongSort") "__init__"))
  d_WrongKind_init : FunD K "__init__" "WrongKind.__init__" (defArgs (mth 20 0)) (defBody (mth 20 0)) (defScope (mth 20 0)) [] [] (He.ma K (He.ga K "WrongKind") "__init__") (fdOf K (He.ma K (He.ga K "WrongKind") "__init__"))
  d_TooMany_init : FunD K "__init__" "TooMany.__init__" (defArgs (mth 19 0)) (defBody (mth 19 0)) (defScope (mth 19 0)) [.str "arrows"] [] (He.ma K (He.ga K "TooMany") "__init__") (fdOf K (He.ma K (He.ga K "TooMany") "__init__"))
  d_Full_init : FunD K "__init__" "Full.__init__" (defArgs (mth 18 0)) (defBody (mth 18 0)) (defScope (mth 18 0)) [] [] (He.ma K (He.ga K "Full") "__init__") (fdOf K (He.ma K (He.ga K "Full") "__init__"))
  d_InUse_init : FunD K "__init__" "InUse.__init__" (defArgs (mth 17 0)) (defBody (mth 17 0)) (defScope (mth 17 0)) [] [] (He.ma K (He.ga K "InUse") "__init__") (fdOf K (He.ma K (He.ga K "InUse") "__init__"))
  d_DuplicateName_init : FunD K "__init__" "DuplicateName.__init__" (defArgs (mth 16 0)) (defBody (mth 16 0)) (defScope (mth 16 0)) [] [] (He.ma K (He.ga K "DuplicateName") "__init__") (fdOf K (He.ma K (He.ga K "DuplicateName") "__init__"))
  d_NothingLeft_init : FunD K "__init__" "NothingLeft.__init__" (defArgs (mth 28 0)) (defBody (mth 28 0)) (defScope (mth 28 0)) [] [] (He.ma K (He.ga K "NothingLeft") "__init__") (fdOf K (He.ma K (He.ga K "NothingLeft") "__init__"))
  d_UnknownName_init : FunD K "__init__" "UnknownName.__init__" (defArgs (mth 27 0)) (defBody (mth 27 0)) (defScope (mth 27 0)) [] [] (He.ma K (He.ga K "UnknownName") "__init__") (fdOf K (He.ma K (He.ga K "UnknownName") "__init__"))
  d_Unfit_init : FunD K "__init__" "Unfit.__init__" (defArgs (mth 26 0)) (defBody (mth 26 0)) (defScope (mth 26 0)) [] [] (He.ma K (He.ga K "Unfit") "__init__") (fdOf K (He.ma K (He.ga K "Unfit") "__init__"))
  d_ZeroDivisor_init : FunD K "__init__" "ZeroDivisor.__init__" (defArgs (mth 25 0)) (defBody (mth 25 0)) (defScope (mth 25 0)) [] [] (He.ma K (He.ga K "ZeroDivisor") "__init__") (fdOf K (He.ma K (He.ga K "ZeroDivisor") "__init__"))
  d_NotEven_init : FunD K "__init__" "NotEven.__init__" (defArgs (mth 24 0)) (defBody (mth 24 0)) (defScope (mth 24 0)) [] [] (He.ma K (He.ga K "NotEven") "__init__") (fdOf K (He.ma K (He.ga K "NotEven") "__init__"))
  d__law_errors : FunD K "_law_errors" "_law_errors" (defArgs (top 36)) (defBody (top 36)) (defScope (top 36)) [] [] (He.ga K "_law_errors") (fdOf K (He.ga K "_law_errors"))
  d__law_sorts : FunD K "_law_sorts" "_law_sorts" (defArgs (top 38)) (defBody (top 38)) (defScope (top 38)) [] [] (He.ga K "_law_sorts") (fdOf K (He.ga K "_law_sorts"))
  d__law_field : FunD K "_law_field" "_law_field" (defArgs (top 34)) (defBody (top 34)) (defScope (top 34)) [] [] (He.ga K "_law_field") (fdOf K (He.ga K "_law_field"))
  d__law_same : FunD K "_law_same" "_law_same" (defArgs (top 33)) (defBody (top 33)) (defScope (top 33)) [] [] (He.ga K "_law_same") (fdOf K (He.ga K "_law_same"))
  d__law_named : FunD K "_law_named" "_law_named" (defArgs (top 37)) (defBody (top 37)) (defScope (top 37)) [] [] (He.ga K "_law_named") (fdOf K (He.ga K "_law_named"))
  d_law : FunD K "law" "law" (defArgs (top 39)) (defBody (top 39)) (defScope (top 39)) [] [] (He.ga K "law") (fdOf K (He.ga K "law"))
  W : ClsOk K CLS subC
  base : BaseOk K .ve (He.ga K "StrideError")
  baseM : BaseOk K .le (He.ga K "Missing")
  baseI : PySem.W.findCls K (.type "IndexError") (.type "type") "__init__" = some (.val (.builtin "IndexError.__init__"))
  e_InvalidName : ErrK K .ve "InvalidName" (He.ma K (He.ga K "InvalidName") "__init__") ["name"]
  e_InvalidRows : ErrK K .ve "InvalidRows" (He.ma K (He.ga K "InvalidRows") "__init__") ["at"]
  e_InvalidTurns : ErrK K .ve "InvalidTurns" (He.ma K (He.ga K "InvalidTurns") "__init__") ["at"]
  e_InvalidKind : ErrK K .ve "InvalidKind" (He.ma K (He.ga K "InvalidKind") "__init__") ["given"]
  e_InvalidTable : ErrK K .ve "InvalidTable" (He.ma K (He.ga K "InvalidTable") "__init__") ["given"]
  e_InvalidPlaces : ErrK K .ve "InvalidPlaces" (He.ma K (He.ga K "InvalidPlaces") "__init__") ["at"]
  e_InvalidNumber : ErrK K .ve "InvalidNumber" (He.ma K (He.ga K "InvalidNumber") "__init__") ["given"]
  e_InvalidLimit : ErrK K .ve "InvalidLimit" (He.ma K (He.ga K "InvalidLimit") "__init__") ["given"]
  e_InvalidPage : ErrK K .ve "InvalidPage" (He.ma K (He.ga K "InvalidPage") "__init__") ["line"]
  e_InvalidCommand : ErrK K .ve "InvalidCommand" (He.ma K (He.ga K "InvalidCommand") "__init__") ["at"]
  e_InvalidLine : ErrK K .ve "InvalidLine" (He.ma K (He.ga K "InvalidLine") "__init__") ["line"]
  e_InvalidSign : ErrK K .ve "InvalidSign" (He.ma K (He.ga K "InvalidSign") "__init__") ["given"]
  e_InvalidText : ErrK K .ve "InvalidText" (He.ma K (He.ga K "InvalidText") "__init__") ["given"]
  e_NotPlane : ErrK K .ve "NotPlane" (He.ma K (He.ga K "NotPlane") "__init__") []
  e_Mismatch : ErrK K .ve "Mismatch" (He.ma K (He.ga K "Mismatch") "__init__") []
  e_WrongSort : ErrK K .ve "WrongSort" (He.ma K (He.ga K "WrongSort") "__init__") ["name"]
  e_WrongKind : ErrK K .ve "WrongKind" (He.ma K (He.ga K "WrongKind") "__init__") ["word"]
  e_TooMany : ErrK K .ve "TooMany" (He.ma K (He.ga K "TooMany") "__init__") ["most", "subject"]
  e_Full : ErrK K .ve "Full" (He.ma K (He.ga K "Full") "__init__") ["limit"]
  e_InUse : ErrK K .ve "InUse" (He.ma K (He.ga K "InUse") "__init__") ["name", "users"]
  e_DuplicateName : ErrK K .ve "DuplicateName" (He.ma K (He.ga K "DuplicateName") "__init__") ["name"]
  e_NothingLeft : ErrK K .ie "NothingLeft" (He.ma K (He.ga K "NothingLeft") "__init__") []
  e_UnknownName : ErrK K .le "UnknownName" (He.ma K (He.ga K "UnknownName") "__init__") ["name"]
  e_Unfit : ErrK K .ve "Unfit" (He.ma K (He.ga K "Unfit") "__init__") []
  e_ZeroDivisor : ErrK K .ve "ZeroDivisor" (He.ma K (He.ga K "ZeroDivisor") "__init__") []
  e_NotEven : ErrK K .ve "NotEven" (He.ma K (He.ga K "NotEven") "__init__") []
  exci : ∀ c ∈ EXC, ExcC K (He.ga K c)
  isx_InvalidKind : ∀ c ∈ EXC, PySem.W.kitOne K (.ref (He.ga K c)) (.ref (He.ga K "InvalidKind")) = some (inE ["InvalidKind"] c)
  isx_InvalidTable : ∀ c ∈ EXC, PySem.W.kitOne K (.ref (He.ga K c)) (.ref (He.ga K "InvalidTable")) = some (inE ["InvalidTable"] c)
  isx_InvalidPlaces : ∀ c ∈ EXC, PySem.W.kitOne K (.ref (He.ga K c)) (.ref (He.ga K "InvalidPlaces")) = some (inE ["InvalidPlaces"] c)
  isx_InvalidNumber : ∀ c ∈ EXC, PySem.W.kitOne K (.ref (He.ga K c)) (.ref (He.ga K "InvalidNumber")) = some (inE ["InvalidNumber"] c)
  isx_InvalidText : ∀ c ∈ EXC, PySem.W.kitOne K (.ref (He.ga K c)) (.ref (He.ga K "InvalidText")) = some (inE ["InvalidText"] c)
  isx_InvalidName : ∀ c ∈ EXC, PySem.W.kitOne K (.ref (He.ga K c)) (.ref (He.ga K "InvalidName")) = some (inE ["InvalidName"] c)
  isx_InvalidRows : ∀ c ∈ EXC, PySem.W.kitOne K (.ref (He.ga K c)) (.ref (He.ga K "InvalidRows")) = some (inE ["InvalidRows"] c)
  isx_InvalidTurns : ∀ c ∈ EXC, PySem.W.kitOne K (.ref (He.ga K c)) (.ref (He.ga K "InvalidTurns")) = some (inE ["InvalidTurns"] c)
  isx_InvalidPage : ∀ c ∈ EXC, PySem.W.kitOne K (.ref (He.ga K c)) (.ref (He.ga K "InvalidPage")) = some (inE ["InvalidPage"] c)
  isx_InvalidCommand : ∀ c ∈ EXC, PySem.W.kitOne K (.ref (He.ga K c)) (.ref (He.ga K "InvalidCommand")) = some (inE ["InvalidCommand"] c)
  isx_InvalidLine : ∀ c ∈ EXC, PySem.W.kitOne K (.ref (He.ga K c)) (.ref (He.ga K "InvalidLine")) = some (inE ["InvalidLine"] c)
  isx_InvalidSign : ∀ c ∈ EXC, PySem.W.kitOne K (.ref (He.ga K c)) (.ref (He.ga K "InvalidSign")) = some (inE ["InvalidSign"] c)
  isx_Full : ∀ c ∈ EXC, PySem.W.kitOne K (.ref (He.ga K c)) (.ref (He.ga K "Full")) = some (inE ["Full"] c)
  isx_InUse : ∀ c ∈ EXC, PySem.W.kitOne K (.ref (He.ga K c)) (.ref (He.ga K "InUse")) = some (inE ["InUse"] c)
  isx_DuplicateName : ∀ c ∈ EXC, PySem.W.kitOne K (.ref (He.ga K c)) (.ref (He.ga K "DuplicateName")) = some (inE ["DuplicateName"] c)
  isx_InvalidLimit : ∀ c ∈ EXC, PySem.W.kitOne K (.ref (He.ga K c)) (.ref (He.ga K "InvalidLimit")) = some (inE ["InvalidLimit"] c)
  isx_Mismatch : ∀ c ∈ EXC, PySem.W.kitOne K (.ref (He.ga K c)) (.ref (He.ga K "Mismatch")) = some (inE ["Mismatch"] c)
  isx_WrongSort : ∀ c ∈ EXC, PySem.W.kitOne K (.ref (He.ga K c)) (.ref (He.ga K "WrongSort")) = some (inE ["WrongSort"] c)
  isx_WrongKind : ∀ c ∈ EXC, PySem.W.kitOne K (.ref (He.ga K c)) (.ref (He.ga K "WrongKind")) = some (inE ["WrongKind"] c)
  isx_TooMany : ∀ c ∈ EXC, PySem.W.kitOne K (.ref (He.ga K c)) (.ref (He.ga K "TooMany")) = some (inE ["TooMany"] c)
  isx_Unfit : ∀ c ∈ EXC, PySem.W.kitOne K (.ref (He.ga K c)) (.ref (He.ga K "Unfit")) = some (inE ["Unfit"] c)
  isx_ZeroDivisor : ∀ c ∈ EXC, PySem.W.kitOne K (.ref (He.ga K c)) (.ref (He.ga K "ZeroDivisor")) = some (inE ["ZeroDivisor"] c)
  isx_NotEven : ∀ c ∈ EXC, PySem.W.kitOne K (.ref (He.ga K c)) (.ref (He.ga K "NotEven")) = some (inE ["NotEven"] c)
  isx_NotPlane : ∀ c ∈ EXC, PySem.W.kitOne K (.ref (He.ga K c)) (.ref (He.ga K "NotPlane")) = some (inE ["NotPlane"] c)
  isx_NothingLeft : ∀ c ∈ EXC, PySem.W.kitOne K (.ref (He.ga K c)) (.ref (He.ga K "NothingLeft")) = some (inE ["NothingLeft"] c)
  isx_UnknownName : ∀ c ∈ EXC, PySem.W.kitOne K (.ref (He.ga K c)) (.ref (He.ga K "UnknownName")) = some (inE ["UnknownName"] c)
  xfok : XfOk K EXC EFL
  isx_IndexError : ∀ c ∈ EXC, PySem.W.kitOne K (.ref (He.ga K c)) (.type "IndexError") = some (inE ["NothingLeft"] c)
  isx_LookupError : ∀ c ∈ EXC, PySem.W.kitOne K (.ref (He.ga K c)) (.type "LookupError") = some (inE ["UnknownName", "NothingLeft"] c)
  isx_Missing : ∀ c ∈ EXC, PySem.W.kitOne K (.ref (He.ga K c)) (.ref (He.ga K "Missing")) = some (inE ["UnknownName"] c)
  isx_ValueError : ∀ c ∈ EXC, PySem.W.kitOne K (.ref (He.ga K c)) (.type "ValueError") = some (inE ["InvalidNumber", "InvalidPlaces", "InvalidTable", "InvalidKind", "InvalidTurns", "InvalidRows", "InvalidName", "InvalidText", "InvalidSign", "InvalidLine", "InvalidCommand", "InvalidPage", "InvalidLimit", "DuplicateName", "InUse", "Full", "TooMany", "WrongKind", "WrongSort", "Mismatch", "NotPlane", "NotEven", "ZeroDivisor", "Unfit"] c)
  isx_StrideError : ∀ c ∈ EXC, PySem.W.kitOne K (.ref (He.ga K c)) (.ref (He.ga K "StrideError")) = some (inE ["InvalidNumber", "InvalidPlaces", "InvalidTable", "InvalidKind", "InvalidTurns", "InvalidRows", "InvalidName", "InvalidText", "InvalidSign", "InvalidLine", "InvalidCommand", "InvalidPage", "InvalidLimit", "DuplicateName", "InUse", "Full", "TooMany", "WrongKind", "WrongSort", "Mismatch", "NotPlane", "NotEven", "ZeroDivisor", "Unfit"] c)
theorem facts_of {w : World} {K : Fg} {h : Heap} {mg : Str → Option Value} (X : K.In h) (G : h.Ns mainGlobals mg) (c : He.SaysX fa fn [] tf exB w h K) (c2 : He5.SaysA [] fs K) : Facts K mg :=
  ⟨He.glo_ok X G (c.t.d.fact 0 (f := (.glo "_law_bag" : He.Fa)) rfl),
   He.glo_ok X G (c.t.d.fact 1 (f := (.glo "_law_draw" : He.Fa)) rfl),
   He.glo_ok X G (c.t.d.fact 2 (f := (.glo "_law_of" : He.Fa)) rfl),
   He.glo_ok X G (c.t.d.fact 3 (f := (.glo "_law_codes" : He.Fa)) rfl),
   He.glo_ok X G (c.t.d.fact 4 (f := (.glo "_law_errors" : He.Fa)) rfl),
   He.glo_ok X G (c.t.d.fact 5 (f := (.glo "_law_sorts" : He.Fa)) rfl),
   He.glo_ok X G (c.t.d.fact 6 (f := (.glo "_law_field" : He.Fa)) rfl),
   He.glo_ok X G (c.t.d.fact 7 (f := (.glo "_law_same" : He.Fa)) rfl),
   He.glo_ok X G (c.t.d.fact 8 (f := (.glo "_law_named" : He.Fa)) rfl),
   He.glo_ok X G (c.t.d.fact 9 (f := (.glo "law" : He.Fa)) rfl),
   He.glo_ok X G (c.t.d.fact 10 (f := (.glo "InvalidName" : He.Fa)) rfl),
   He.glo_ok X G (c.t.d.fact 11 (f := (.glo "StrideError" : He.Fa)) rfl),
   He.glo_ok X G (c.t.d.fact 12 (f := (.glo "InvalidRows" : He.Fa)) rfl),
   He.glo_ok X G (c.t.d.fact 13 (f := (.glo "InvalidTurns" : He.Fa)) rfl),
   He.glo_ok X G (c.t.d.fact 14 (f := (.glo "InvalidKind" : He.Fa)) rfl),
   He.glo_ok X G (c.t.d.fact 15 (f := (.glo "InvalidTable" : He.Fa)) rfl),
   He.glo_ok X G (c.t.d.fact 16 (f := (.glo "InvalidPlaces" : He.Fa)) rfl),
   He.glo_ok X G (c.t.d.fact 17 (f := (.glo "InvalidNumber" : He.Fa)) rfl),
   He.glo_ok X G (c.t.d.fact 18 (f := (.glo "InvalidLimit" : He.Fa)) rfl),
   He.glo_ok X G (c.t.d.fact 19 (f := (.glo "InvalidPage" : He.Fa)) rfl),
   He.glo_ok X G (c.t.d.fact 20 (f := (.glo "InvalidCommand" : He.Fa)) rfl),
   He.glo_ok X G (c.t.d.fact 21 (f := (.glo "InvalidLine" : He.Fa)) rfl),
   He.glo_ok X G (c.t.d.fact 22 (f := (.glo "InvalidSign" : He.Fa)) rfl),
   He.glo_ok X G (c.t.d.fact 23 (f := (.glo "InvalidText" : He.Fa)) rfl),
   He.glo_ok X G (c.t.d.fact 24 (f := (.glo "NotPlane" : He.Fa)) rfl),
   He.glo_ok X G (c.t.d.fact 25 (f := (.glo "Mismatch" : He.Fa)) rfl),
   He.glo_ok X G (c.t.d.fact 26 (f := (.glo "WrongSort" : He.Fa)) rfl),
   He.glo_ok X G (c.t.d.fact 27 (f := (.glo "WrongKind" : He.Fa)) rfl),
   He.glo_ok X G (c.t.d.fact 28 (f := (.glo "TooMany" : He.Fa)) rfl),
   He.glo_ok X G (c.t.d.fact 29 (f := (.glo "Full" : He.Fa)) rfl),
   He.glo_ok X G (c.t.d.fact 30 (f := (.glo "InUse" : He.Fa)) rfl),
   He.glo_ok X G (c.t.d.fact 31 (f := (.glo "DuplicateName" : He.Fa)) rfl),
   He.glo_ok X G (c.t.d.fact 32 (f := (.glo "NothingLeft" : He.Fa)) rfl),
   He.glo_ok X G (c.t.d.fact 33 (f := (.glo "UnknownName" : He.Fa)) rfl),
   He.glo_ok X G (c.t.d.fact 34 (f := (.glo "Missing" : He.Fa)) rfl),
   He.glo_ok X G (c.t.d.fact 35 (f := (.glo "Unfit" : He.Fa)) rfl),
   He.glo_ok X G (c.t.d.fact 36 (f := (.glo "ZeroDivisor" : He.Fa)) rfl),
   He.glo_ok X G (c.t.d.fact 37 (f := (.glo "NotEven" : He.Fa)) rfl),
   He.free_ok X G (c.t.d.fact 38 (f := (.free "int" : He.Fa)) rfl),
   He.free_ok X G (c.t.d.fact 39 (f := (.free "len" : He.Fa)) rfl),
   He.free_ok X G (c.t.d.fact 40 (f := (.free "IndexError" : He.Fa)) rfl),
   He.free_ok X G (c.t.d.fact 41 (f := (.free "enumerate" : He.Fa)) rfl),
   He.free_ok X G (c.t.d.fact 42 (f := (.free "isinstance" : He.Fa)) rfl),
   He.free_ok X G (c.t.d.fact 43 (f := (.free "range" : He.Fa)) rfl),
   He.free_ok X G (c.t.d.fact 44 (f := (.free "bool" : He.Fa)) rfl),
   He.free_ok X G (c.t.d.fact 45 (f := (.free "str" : He.Fa)) rfl),
   He.free_ok X G (c.t.d.fact 46 (f := (.free "dict" : He.Fa)) rfl),
   He.free_ok X G (c.t.d.fact 47 (f := (.free "tuple" : He.Fa)) rfl),
   He.free_ok X G (c.t.d.fact 48 (f := (.free "list" : He.Fa)) rfl),
   He.free_ok X G (c.t.d.fact 49 (f := (.free "zip" : He.Fa)) rfl),
   He.free_ok X G (c.t.d.fact 50 (f := (.free "all" : He.Fa)) rfl),
   He.free_ok X G (c.t.d.fact 51 (f := (.free "LookupError" : He.Fa)) rfl),
   He.free_ok X G (c.t.d.fact 52 (f := (.free "ValueError" : He.Fa)) rfl),
   funD_of (c.t.d.def_ 0 (d := dd__law_bag) rfl),
   funD_of (c.t.d.def_ 1 (d := dd__law_draw) rfl),
   funD_of (c.t.d.def_ 2 (d := dd__law_of) rfl),
   funD_of (c.t.d.def_ 3 (d := dd__law_codes) rfl),
   funD_of (c.t.d.def_ 4 (d := dd_InvalidName_init) rfl),
   funD_of (c.t.d.def_ 5 (d := dd_InvalidRows_init) rfl),
   funD_of (c.t.d.def_ 6 (d := dd_InvalidTurns_init) rfl),
   funD_of (c.t.d.def_ 7 (d := dd_InvalidKind_init) rfl),
   funD_of (c.t.d.def_ 8 (d := dd_InvalidTable_init) rfl),
   funD_of (c.t.d.def_ 9 (d := dd_InvalidPlaces_init) rfl),
   funD_of (c.t.d.def_ 10 (d := dd_InvalidNumber_init) rfl),
   funD_of (c.t.d.def_ 11 (d := dd_InvalidLimit_init) rfl),
   funD_of (c.t.d.def_ 12 (d := dd_InvalidPage_init) rfl),
   funD_of (c.t.d.def_ 13 (d := dd_InvalidCommand_init) rfl),
   funD_of (c.t.d.def_ 14 (d := dd_InvalidLine_init) rfl),
   funD_of (c.t.d.def_ 15 (d := dd_InvalidSign_init) rfl),
   funD_of (c.t.d.def_ 16 (d := dd_InvalidText_init) rfl),
   funD_of (c.t.d.def_ 17 (d := dd_NotPlane_init) rfl),
   funD_of (c.t.d.def_ 18 (d := dd_Mismatch_init) rfl),
   funD_of (c.t.d.def_ 19 (d := dd_WrongSort_init) rfl),
   funD_of (c.t.d.def_ 20 (d := dd_WrongKind_init) rfl),
   funD_of (c.t.d.def_ 21 (d := dd_TooMany_init) rfl),
   funD_of (c.t.d.def_ 22 (d := dd_Full_init) rfl),
   funD_of (c.t.d.def_ 23 (d := dd_InUse_init) rfl),
   funD_of (c.t.d.def_ 24 (d := dd_DuplicateName_init) rfl),
   funD_of (c.t.d.def_ 25 (d := dd_NothingLeft_init) rfl),
   funD_of (c.t.d.def_ 26 (d := dd_UnknownName_init) rfl),
   funD_of (c.t.d.def_ 27 (d := dd_Unfit_init) rfl),
   funD_of (c.t.d.def_ 28 (d := dd_ZeroDivisor_init) rfl),
   funD_of (c.t.d.def_ 29 (d := dd_NotEven_init) rfl),
   funD_of (c.t.d.def_ 30 (d := dd__law_errors) rfl),
   funD_of (c.t.d.def_ 31 (d := dd__law_sorts) rfl),
   funD_of (c.t.d.def_ 32 (d := dd__law_field) rfl),
   funD_of (c.t.d.def_ 33 (d := dd__law_same) rfl),
   funD_of (c.t.d.def_ 34 (d := dd__law_named) rfl),
   funD_of (c.t.d.def_ 35 (d := dd_law) rfl),
   clsB_ok (all_at c.more 0 rfl),
   baseB_ok (all_at c.more 1 rfl),
   baseB_ok (all_at c.more 2 rfl),
   ieB_ok (all_at c.more 3 rfl),
   errB_ok (all_at c.more 4 rfl),
   errB_ok (all_at c.more 5 rfl),
   errB_ok (all_at c.more 6 rfl),
   errB_ok (all_at c.more 7 rfl),
   errB_ok (all_at c.more 8 rfl),
   errB_ok (all_at c.more 9 rfl),
   errB_ok (all_at c.more 10 rfl),
   errB_ok (all_at c.more 11 rfl),
   errB_ok (all_at c.more 12 rfl),
   errB_ok (all_at c.more 13 rfl),
   errB_ok (all_at c.more 14 rfl),
   errB_ok (all_at c.more 15 rfl),
   errB_ok (all_at c.more 16 rfl),
   errB_ok (all_at c.more 17 rfl),
   errB_ok (all_at c.more 18 rfl),
   errB_ok (all_at c.more 19 rfl),
   errB_ok (all_at c.more 20 rfl),
   errB_ok (all_at c.more 21 rfl),
   errB_ok (all_at c.more 22 rfl),
   errB_ok (all_at c.more 23 rfl),
   errB_ok (all_at c.more 24 rfl),
   errB_ok (all_at c.more 25 rfl),
   errB_ok (all_at c.more 26 rfl),
   errB_ok (all_at c.more 27 rfl),
   errB_ok (all_at c.more 28 rfl),
   errB_ok (all_at c.more 29 rfl),
   excsB_ok (all_at c.more 30 rfl),
   isxB_ok (all_at c.more 31 rfl),
   isxB_ok (all_at c.more 32 rfl),
   isxB_ok (all_at c.more 33 rfl),
   isxB_ok (all_at c.more 34 rfl),
   isxB_ok (all_at c.more 35 rfl),
   isxB_ok (all_at c.more 36 rfl),
   isxB_ok (all_at c.more 37 rfl),
   isxB_ok (all_at c.more 38 rfl),
   isxB_ok (all_at c.more 39 rfl),
   isxB_ok (all_at c.more 40 rfl),
   isxB_ok (all_at c.more 41 rfl),
   isxB_ok (all_at c.more 42 rfl),
   isxB_ok (all_at c.more 43 rfl),
   isxB_ok (all_at c.more 44 rfl),
   isxB_ok (all_at c.more 45 rfl),
   isxB_ok (all_at c.more 46 rfl),
   isxB_ok (all_at c.more 47 rfl),
   isxB_ok (all_at c.more 48 rfl),
   isxB_ok (all_at c.more 49 rfl),
   isxB_ok (all_at c.more 50 rfl),
   isxB_ok (all_at c.more 51 rfl),
   isxB_ok (all_at c.more 52 rfl),
   isxB_ok (all_at c.more 53 rfl),
   isxB_ok (all_at c.more 54 rfl),
   isxB_ok (all_at c.more 55 rfl),
   isxB_ok (all_at c.more 56 rfl),
   xfokB_ok (all_at c.more 57 rfl),
   isxB_ok (all_at c.more 58 rfl),
   isxB_ok (all_at c.more 59 rfl),
   isxB_ok (all_at c.more 60 rfl),
   isxB_ok (all_at c.more 61 rfl),
   isxB_ok (all_at c.more 62 rfl)⟩
theorem bi__law_bag {K : Fg} {mg : Str → Option Value} (F : Facts K mg) : Binds K (fdOf K (He.ga K "_law_bag")) ["_law_script"] [] := F.d__law_bag.bindsN fun _ _ _ _ _ _ us hl => match us, hl with | [_], _ => rfl
theorem sc__law_bag : FnScope ["_law_script", "_law_cells", "_law_mixed", "_law_cell"] ["_law_script"] (defScope (top 30)) := ⟨rfl, rfl, rfl, by decide +kernel, rfl, by decide +kernel, by decide +kernel⟩
theorem sc__law_draw : FnScope ["_law_bag_here", "_law_many", "_law_cell", "_law_early", "_law_late", "_law_drawn"] ["_law_bag_here", "_law_many"] (defScope (top 31)) := ⟨rfl, rfl, rfl, by decide +kernel, rfl, by decide +kernel, by decide +kernel⟩
theorem sc__law_of : FnScope ["_law_bag_here", "_law_things"] ["_law_bag_here", "_law_things"] (defScope (top 32)) := ⟨rfl, rfl, rfl, by decide +kernel, rfl, by decide +kernel, by decide +kernel⟩
theorem sc__law_codes : FnScope ["_law_found"] [] (defScope (top 35)) := ⟨rfl, rfl, rfl, by decide +kernel, rfl, by decide +kernel, by decide +kernel⟩
theorem sc_InvalidName_init : FnScope ["self", "name"] ["self", "name"] (defScope (mth 9 0)) := ⟨rfl, rfl, rfl, by decide +kernel, rfl, by decide +kernel, by decide +kernel⟩
theorem sc_InvalidRows_init : FnScope ["self", "at"] ["self", "at"] (defScope (mth 8 0)) := ⟨rfl, rfl, rfl, by decide +kernel, rfl, by decide +kernel, by decide +kernel⟩
theorem sc_InvalidTurns_init : FnScope ["self", "at"] ["self", "at"] (defScope (mth 7 0)) := ⟨rfl, rfl, rfl, by decide +kernel, rfl, by decide +kernel, by decide +kernel⟩
theorem sc_InvalidKind_init : FnScope ["self", "given"] ["self", "given"] (defScope (mth 6 0)) := ⟨rfl, rfl, rfl, by decide +kernel, rfl, by decide +kernel, by decide +kernel⟩
theorem sc_InvalidTable_init : FnScope ["self", "given"] ["self", "given"] (defScope (mth 5 0)) := ⟨rfl, rfl, rfl, by decide +kernel, rfl, by decide +kernel, by decide +kernel⟩
theorem sc_InvalidPlaces_init : FnScope ["self", "at"] ["self", "at"] (defScope (mth 4 0)) := ⟨rfl, rfl, rfl, by decide +kernel, rfl, by decide +kernel, by decide +kernel⟩
theorem sc_InvalidNumber_init : FnScope ["self", "given"] ["self", "given"] (defScope (mth 3 0)) := ⟨rfl, rfl, rfl, by decide +kernel, rfl, by decide +kernel, by decide +kernel⟩
theorem sc_InvalidLimit_init : FnScope ["self", "given"] ["self", "given"] (defScope (mth 15 0)) := ⟨rfl, rfl, rfl, by decide +kernel, rfl, by decide +kernel, by decide +kernel⟩
theorem sc_InvalidPage_init : FnScope ["self", "line"] ["self", "line"] (defScope (mth 14 0)) := ⟨rfl, rfl, rfl, by decide +kernel, rfl, by decide +kernel, by decide +kernel⟩
theorem sc_InvalidCommand_init : FnScope ["self", "at"] ["self", "at"] (defScope (mth 13 0)) := ⟨rfl, rfl, rfl, by decide +kernel, rfl, by decide +kernel, by decide +kernel⟩
theorem sc_InvalidLine_init : FnScope ["self", "line"] ["self", "line"] (defScope (mth 12 0)) := ⟨rfl, rfl, rfl, by decide +kernel, rfl, by decide +kernel, by decide +kernel⟩
theorem sc_InvalidSign_init : FnScope ["self", "given"] ["self", "given"] (defScope (mth 11 0)) := ⟨rfl, rfl, rfl, by decide +kernel, rfl, by decide +kernel, by decide +kernel⟩
theorem sc_InvalidText_init : FnScope ["self", "given"] ["self", "given"] (defScope (mth 10 0)) := ⟨rfl, rfl, rfl, by decide +kernel, rfl, by decide +kernel, by decide +kernel⟩
theorem sc_NotPlane_init : FnScope ["self"] ["self"] (defScope (mth 23 0)) := ⟨rfl, rfl, rfl, by decide +kernel, rfl, by decide +kernel, by decide +kernel⟩
theorem sc_Mismatch_init : FnScope ["self"] ["self"] (defScope (mth 22 0)) := ⟨rfl, rfl, rfl, by decide +kernel, rfl, by decide +kernel, by decide +kernel⟩
theorem sc_WrongSort_init : FnScope ["self", "name"] ["self", "name"] (defScope (mth 21 0)) := ⟨rfl, rfl, rfl, by decide +kernel, rfl, by decide +kernel, by decide +kernel⟩
theorem sc_WrongKind_init : FnScope ["self", "word"] ["self", "word"] (defScope (mth 20 0)) := ⟨rfl, rfl, rfl, by decide +kernel, rfl, by decide +kernel, by decide +kernel⟩
theorem sc_TooMany_init : FnScope ["self", "most", "subject"] ["self", "most", "subject"] (defScope (mth 19 0)) := ⟨rfl, rfl, rfl, by decide +kernel, rfl, by decide +kernel, by decide +kernel⟩
theorem sc_Full_init : FnScope ["self", "limit"] ["self", "limit"] (defScope (mth 18 0)) := ⟨rfl, rfl, rfl, by decide +kernel, rfl, by decide +kernel, by decide +kernel⟩
theorem sc_InUse_init : FnScope ["self", "name", "users"] ["self", "name", "users"] (defScope (mth 17 0)) := ⟨rfl, rfl, rfl, by decide +kernel, rfl, by decide +kernel, by decide +kernel⟩
theorem sc_DuplicateName_init : FnScope ["self", "name"] ["self", "name"] (defScope (mth 16 0)) := ⟨rfl, rfl, rfl, by decide +kernel, rfl, by decide +kernel, by decide +kernel⟩
theorem sc_NothingLeft_init : FnScope ["self"] ["self"] (defScope (mth 28 0)) := ⟨rfl, rfl, rfl, by decide +kernel, rfl, by decide +kernel, by decide +kernel⟩
theorem sc_UnknownName_init : FnScope ["self", "name"] ["self", "name"] (defScope (mth 27 0)) := ⟨rfl, rfl, rfl, by decide +kernel, rfl, by decide +kernel, by decide +kernel⟩
theorem sc_Unfit_init : FnScope ["self"] ["self"] (defScope (mth 26 0)) := ⟨rfl, rfl, rfl, by decide +kernel, rfl, by decide +kernel, by decide +kernel⟩
theorem sc_ZeroDivisor_init : FnScope ["self"] ["self"] (defScope (mth 25 0)) := ⟨rfl, rfl, rfl, by decide +kernel, rfl, by decide +kernel, by decide +kernel⟩
theorem sc_NotEven_init : FnScope ["self"] ["self"] (defScope (mth 24 0)) := ⟨rfl, rfl, rfl, by decide +kernel, rfl, by decide +kernel, by decide +kernel⟩
theorem sc__law_errors : FnScope ["_law_x", "_law_y", "_law_found"] ["_law_x", "_law_y"] (defScope (top 36)) := ⟨rfl, rfl, rfl, by decide +kernel, rfl, by decide +kernel, by decide +kernel⟩
theorem sc__law_sorts : FnScope ["_law_e", "_law_found"] ["_law_e"] (defScope (top 38)) := ⟨rfl, rfl, rfl, by decide +kernel, rfl, by decide +kernel, by decide +kernel⟩
theorem sc__law_field : FnScope ["_law_e"] ["_law_e"] (defScope (top 34)) := ⟨rfl, rfl, rfl, by decide +kernel, rfl, by decide +kernel, by decide +kernel⟩
theorem bi__law_same {K : Fg} {mg : Str → Option Value} (F : Facts K mg) : Binds K (fdOf K (He.ga K "_law_same")) ["_law_found", "_law_due"] [] := F.d__law_same.bindsN fun _ _ _ _ _ _ us hl => match us, hl with | [_, _], _ => rfl
theorem sc__law_same : FnScope ["_law_found", "_law_due", "_law_key", "_law_a", "_law_b"] ["_law_found", "_law_due"] (defScope (top 33)) := ⟨rfl, rfl, rfl, by decide +kernel, rfl, by decide +kernel, by decide +kernel⟩
theorem sc__law_named : FnScope ["_law_x", "_law_y", "_law_found"] ["_law_x", "_law_y"] (defScope (top 37)) := ⟨rfl, rfl, rfl, by decide +kernel, rfl, by decide +kernel, by decide +kernel⟩
theorem sc_law : FnScope ["_law_script", "_law_bag_here", "_law_x", "_law_y", "_law_codes_here", "_law_k", "_law_e", "_law_due", "_law_j", "_law_above"] ["_law_script"] (defScope (top 39)) := ⟨rfl, rfl, rfl, by decide +kernel, rfl, by decide +kernel, by decide +kernel⟩
end LK
/-! K01P -/
set_option Elab.async false
set_option linter.all false
set_option maxRecDepth 100000
set_option maxHeartbeats 4000000
namespace LK
open PySem PySem.Spec PyProof.Rows L2 DL
variable [TabC]
variable {P : Program} {w : World} {K : Fg} {mg : Str → Option Value} {base : Heap}
theorem sle {s : Str} {n : Nat} (h : s.length ≤ n) : s.length ≤ n := h
local macro_rules
  | `(tactic| exists $i:ident) => match i.getId.eraseMacroScopes with
    | `pt => `(tactic| ((focus (repeat' first | with_reducible exact pt0 | with_reducible apply pts | with_reducible intro _))))
    | `nx => `(tactic| ((first | (with_reducible show Stp _) | refine Stp.run ?_); (try with_reducible refine nx_mk ?_)))
    | `st => `(tactic| ((focus (repeat' first | with_reducible exact pt0 | with_reducible apply pts | with_reducible apply ns_put | with_reducible apply ns_wipe | with_reducible apply ns_wipe0 | with_reducible exact ns_id))))
    | `ass => `(tactic| ((with_reducible first | apply as1 | apply as2 | apply as3 | apply as2l | apply as3l); (repeat' first | with_reducible exact pt0 | with_reducible apply pts | with_reducible apply ns_put | with_reducible apply ns_wipe | with_reducible apply ns_wipe0 | with_reducible exact ns_id)))
    | `sd => `(tactic| ((try (show (_ : Prop); (fail_if_success (with_reducible show Ev _ _ _)); first | ((with_reducible apply sle); first | (simp only [str_len2]; omega) | with_reducible assumption | omega | decide) | ((fail_if_success (with_reducible apply sle)); first | assumption | ((with_reducible refine And.intro ?_ ?_) <;> omega) | ((fail_if_success (with_reducible refine And.intro ?_ ?_)); first | rfl | exact List.cons_ne_nil _ _ | exact Nat.le_of_ble_eq_true rfl | decide | omega | exact MulOk.right (by omega) | exact MulOk.left (by omega) | exact MulOk.of (by assumption) (by assumption) (by decide) | exact Sz.mono (by assumption) (by decide) | exact szLog (by assumption) | exact szLog (Sms.get (by assumption) (by assumption)) | exact szW (by decide) | (simp only [List.length_map, List.length_cons, List.length_nil, List.length_append, List.length_reverse]; omega)))))))
    | `ea => `(tactic| (first | ((with_reducible apply ev_var); exact rfl) | with_reducible exact ev_c | (with_reducible (first | apply ev_repF | apply ev_repT | apply ev_g2 | apply ev_g1 | apply eva_cons | apply ev_tup | apply ev_lst | apply evt_B | apply evt_and | apply evt_or | apply evt_not | apply ev_if | apply ev_isi | apply ev_isN | apply ev_fld | apply ev_ca | apply ev_mc | apply ev_ci | apply ev_con | apply ev_mk | apply ev_own1 | apply ev_own2 | apply ev_ownR | apply ev_ownQ | apply ev_ownN | apply ev_ownE | apply ev_ownEN | apply ev_ownS | apply ev_ownB | apply ev_join | apply ev_js | apply ev_fmt | apply ev_sl | apply ev_andV | apply ev_orV | apply ev_notV | apply ev_chain | apply ev_cl | apply eva_app | apply eva_star | apply eva_star1 | apply evp_part | apply evi_it | apply evi_LL | apply evi_TT | apply evi_S | apply evi_rng | apply evi_rng2 | apply evi_zip | apply evi_en | apply ev_tm | apply ot_split | apply ot_part | apply o_intS | apply o_ixS | apply o_inL | apply o_inTu | apply o_inT | apply o_pow | apply o_rev | apply o_strI | apply ev_ls | apply o_ninTu | apply o_ixTI | apply sr_shp | apply sri_shp | apply sr_same | apply ow2_own | apply ow2_int | apply fm_S | apply fm_I | apply sl_S | apply aev1 | apply aev2 | apply aev3 | apply aevf1 | apply aevf2 | apply aevf3 | apply ev_exc | apply ev_isX | exact eva_nil | exact evt_yes | exact evp_no | exact ev_jsN | exact itr_L | exact itr_T | exact sl_L | exact sl_T | exact jn_eq | exact jn_int | exact jn_str | exact jn_bl | exact jn_tup | exact jn_lst | exact jn_any | exact o_eqI | exact o_neI | exact o_eqS | exact o_neS | exact o_eqB | exact o_neB | exact o_all | exact o_eqT2 | exact o_neT2 | exact o_inS | exact o_ninS | exact o_eqL | exact o_eqTu | exact o_max2 | exact o_tup | exact o_tup2 | exact o_lst | exact o_lst2)) | ((with_reducible apply ev_varT); exact rfl) | ((with_reducible apply ev_varO); exact rfl) | ((with_reducible apply o2_i); exact fun _ q => q) | ((with_reducible apply o2_i); refine fun _ zq_ => ⟨?_, zq_⟩) | ((with_reducible apply o1_i); exact fun _ q => q) | ((with_reducible apply o1_i); refine fun _ zq_ => ⟨?_, zq_⟩) | ((with_reducible apply on_i); exact fun _ q => q) | ((with_reducible apply on_i); refine fun _ zq_ => ⟨?_, zq_⟩) | ((with_reducible apply fi_i); exact rfl) | ((with_reducible apply pk_i); exact rfl) | exact pairs_ints _ _ | ((with_reducible apply mp_i); exact rfl) | with_reducible apply ev_lc | with_reducible apply ev_lcF))
    | `es => `(tactic| (fail))
    | `ev => `(tactic| (focus ((repeat' first | exists ea | exists es | with_reducible intro _) <;> exists sd)))
    | `cps => `(tactic| ((with_reducible first | refine c_asg ?_ | refine c_tgt ?_ | refine c_par ?_ | skip); (repeat first | ((with_reducible apply c_draw); (exact ev_var rfl); (first | (with_reducible exact ev_c) | (focus (exists ev; done))); decide; (exact divW (by decide) (by decide)); intro _ _ _) | ((with_reducible apply c_var); exact rfl) | ((with_reducible apply c_ev); (focus (exists ev; done))) | with_reducible refine c_cons ?_ | with_reducible refine c_tup ?_ | with_reducible refine c_lst ?_ | with_reducible refine c_g2 ?_ | with_reducible refine c_g1 ?_ | with_reducible refine c_app ?_ | with_reducible refine c_addI ?_ | with_reducible refine c_subI ?_ | with_reducible refine c_ca ?_ | with_reducible refine c_mk ?_ | with_reducible refine c_lc1 ?_ | with_reducible refine c_rng2 ?_ | with_reducible refine c_rng3 ?_ | with_reducible refine c_nil ?_ | with_reducible refine c_c ?_ | with_reducible refine c_lc0 ?_ | ((with_reducible first | apply as1 | apply as2 | apply as3 | apply as2l | apply as3l); (repeat' first | with_reducible exact pt0 | with_reducible apply pts | with_reducible apply ns_put | with_reducible apply ns_wipe | with_reducible apply ns_wipe0 | with_reducible exact ns_id)) | ((with_reducible refine c_pow ?_ ?_ ?_ ?_); decide; decide; decide) | (with_reducible refine c_o2 o_eqI ?_) | ((with_reducible refine c_len ?_ ?_); exact rfl) | ((with_reducible refine c_lt ?_ ?_); exact rfl) | ((with_reducible refine c_mulI ?_ ?_); (first | exact MulOk.right (by omega) | exact MulOk.left (by omega)))); (try simp only [List.nil_append, List.cons_append]); (try (with_reducible apply n_st; (focus (repeat' first | with_reducible exact pt0 | with_reducible apply pts | with_reducible apply ns_put | with_reducible apply ns_wipe | with_reducible apply ns_wipe0 | with_reducible exact ns_id))))))
    | `dl => `(tactic| (simp (config := { decide := false }) only [gRet, gRetN, gAndV, gOrV, gNotV, gIsi, gVar, gVarT, gC, gSeq, gNext, gIfS, gAsg, gDrop, gNever, gBreak, gCont, gIf, gAnd, gOr, gNot, gB, g1, g2, DL.gNil, DL.gCons, DL.gTup, DL.gLst, gIsN, dIsN, gPar, gTgt, asg, asgs, gCl, gCall, gCallK, gMeth, gFld, gMake, gJoin, gSl2, gNoP, gPart, gItS, gIt, gItL, gItT, gZip, gRng1, gLc, gRaise, gYes, gChain, dI, dI0, startD, initD, look, put, wipeD, List.map_cons, List.map_nil, List.cons_append, List.nil_append, List.append_nil, List.length_cons, List.length_nil, List.replicate, Nat.zero_add, Nat.add_zero, Nat.sub_self, Nat.reduceAdd, Nat.reduceSub, dAddA, dAddB, dMulA, dLen3, dNeg, true_and, eq_self, gCa, gMc, gMk, gSlA, gZipA, gEnum, gOwn2, gOwnQ, gOwnN, gOwn1, gOwnS, gOwnR, gAsgO, gPsh, gAns, gOwnE, gOwnEN, gOwnB, gJs, gFmt]))
    | _ => Lean.Macro.throwUnsupported
local macro_rules
  | `(tactic| exists $i:ident, (by $t:tacticSeq)) => if i.getId.eraseMacroScopes == `ev then `(tactic| (focus ((repeat' first | ($t:tacticSeq) | exists ea | exists es | with_reducible intro _) <;> exists sd))) else Lean.Macro.throwUnsupported
theorem ok__law_bag (F : Facts K mg) : FnOk P w K mg base (L2.CX P w) 1 (He.ga K "_law_bag") (fdOf K (He.ga K "_law_bag")) ["_law_script"] (spBag K) := by
  refine F.d__law_bag.ok sc__law_bag (fun vs H Q E h => by obtain ⟨a, ns, rfl, _⟩ := h; rfl) fun cdv A outer s H vs Q E hr h => ⟨_, (pss_cons (ps_setLc (own := [("_law_cell", 3)]) (i := 1) rfl sc__law_bag.nd rfl rfl rfl (pi_list (pe_slice sl_list (pe_var (i := 0) rfl (by first | exact Or.inl rfl | exact Or.inr (Or.inl rfl) | exact Or.inr (Or.inr rfl))) po_none (po_some pe_int))) (blk_ok (N := ["_law_script", "_law_cells", "_law_mixed", "_law_cell"]) (sc := defScope (top 30)) (by decide +kernel)) (fun _ _ _ _ _ => pg_name (i := 3) sc__law_bag.nd rfl (.inl rfl)) (fun _ _ _ _ _ => pts_nil) (fun _ _ _ _ _ => (pe_callTy call_int1 rfl F.n_int rfl (pa_cons (pe_var (i := 3) rfl (by first | exact Or.inl rfl | exact Or.inr (Or.inl rfl) | exact Or.inr (Or.inr rfl))) pa_nil)))) (pss_cons (ps_set (i := 2) sc__law_bag.nd rfl (.inl rfl) (pe_op op_add pe_int (pe_op op_mulOk pe_int (pe_callB call_len3 rfl F.n_len boot_len (pa_cons (pe_var (i := 1) rfl (by first | exact Or.inl rfl | exact Or.inr (Or.inl rfl) | exact Or.inr (Or.inr rfl))) pa_nil))))) (pss_cons (ps_for (passes_of rfl) rfl (pi_list (pe_var (i := 1) rfl (by first | exact Or.inl rfl | exact Or.inr (Or.inl rfl) | exact Or.inr (Or.inr rfl)))) (pg_name (i := 3) sc__law_bag.nd rfl (.inl rfl)) (pss_one (ps_set (i := 2) sc__law_bag.nd rfl (.inl rfl) (pe_op op_modN (pe_callTy call_int1 rfl F.n_int rfl (pa_cons (pe_op op_add (pe_op op_mulOk (pe_var (i := 2) rfl (by first | exact Or.inl rfl | exact Or.inr (Or.inl rfl) | exact Or.inr (Or.inr rfl))) pe_int) (pe_var (i := 3) rfl (by first | exact Or.inl rfl | exact Or.inr (Or.inl rfl) | exact Or.inr (Or.inr rfl)))) pa_nil)) pe_int)))) (pss_one (ps_ret (pe_lst (pa_cons (pe_var (i := 1) rfl (by first | exact Or.inl rfl | exact Or.inr (Or.inl rfl) | exact Or.inr (Or.inr rfl))) (pa_cons pe_int (pa_cons pe_int (pa_cons (pe_var (i := 2) rfl (by first | exact Or.inl rfl | exact Or.inr (Or.inl rfl) | exact Or.inr (Or.inr rfl))) pa_nil)))))))))), bag_read h rfl⟩
theorem ok__law_draw (F : Facts K mg) : FnOk P w K mg base (L2.CX P w) 1 (He.ga K "_law_draw") (fdOf K (He.ga K "_law_draw")) ["_law_bag_here", "_law_many"] (lift K sDraw) := by
  refine F.d__law_draw.ok sc__law_draw (fun vs H Q E h => by obtain ⟨p, c, m, i, j, x, ns, rfl, _⟩ := draw_lift h; rfl) fun cdv A outer s H vs Q E hr h => ⟨_, (pss_cons (ps_if (pt_cmp (pc_lt (pe_ix ix_seq (pe_var (i := 0) rfl (by first | exact Or.inl rfl | exact Or.inr (Or.inl rfl) | exact Or.inr (Or.inr rfl))) pe_int (fun _ _ => rfl)) pe_int)) (pss_cons (ps_asg (pe_op op_add (pe_ix ix_seq (pe_var (i := 0) rfl (by first | exact Or.inl rfl | exact Or.inr (Or.inl rfl) | exact Or.inr (Or.inr rfl))) pe_int (fun _ _ => rfl)) pe_int) (pg_sub (pe_var (i := 0) rfl (by first | exact Or.inl rfl | exact Or.inr (Or.inl rfl) | exact Or.inr (Or.inr rfl))) pe_int set_list)) (pss_cons (ps_set (i := 2) sc__law_draw.nd rfl (.inl rfl) (pe_op op_add (pe_ix ix_seq (pe_var (i := 0) rfl (by first | exact Or.inl rfl | exact Or.inr (Or.inl rfl) | exact Or.inr (Or.inr rfl))) pe_int (fun _ _ => rfl)) (pe_op op_mulOk (pe_ix ix_seq (pe_var (i := 0) rfl (by first | exact Or.inl rfl | exact Or.inr (Or.inl rfl) | exact Or.inr (Or.inr rfl))) pe_int (fun _ _ => rfl)) pe_int))) (pss_cons (ps_if (pt_cmp (pc_le (pe_ix ix_seq (pe_var (i := 0) rfl (by first | exact Or.inl rfl | exact Or.inr (Or.inl rfl) | exact Or.inr (Or.inr rfl))) pe_int (fun _ _ => rfl)) (pe_callB call_len3 rfl F.n_len boot_len (pa_cons (pe_ix ix_seq (pe_var (i := 0) rfl (by first | exact Or.inl rfl | exact Or.inr (Or.inl rfl) | exact Or.inr (Or.inr rfl))) pe_int (fun _ _ => rfl)) pa_nil)))) (pss_one (ps_set (i := 2) sc__law_draw.nd rfl (.inl rfl) (pe_ix ix_seq (pe_ix ix_seq (pe_var (i := 0) rfl (by first | exact Or.inl rfl | exact Or.inr (Or.inl rfl) | exact Or.inr (Or.inr rfl))) pe_int (fun _ _ => rfl)) (pe_op op_sub (pe_ix ix_seq (pe_var (i := 0) rfl (by first | exact Or.inl rfl | exact Or.inr (Or.inl rfl) | exact Or.inr (Or.inr rfl))) pe_int (fun _ _ => rfl)) pe_int) (fun _ _ => rfl)))) pss_nil) (pss_cons (ps_if (PW.pt (pw_or (pt_cmp (pc_gt (pe_ix ix_seq (pe_var (i := 0) rfl (by first | exact Or.inl rfl | exact Or.inr (Or.inl rfl) | exact Or.inr (Or.inr rfl))) pe_int (fun _ _ => rfl)) (pe_callB call_len3 rfl F.n_len boot_len (pa_cons (pe_ix ix_seq (pe_var (i := 0) rfl (by first | exact Or.inl rfl | exact Or.inr (Or.inl rfl) | exact Or.inr (Or.inr rfl))) pe_int (fun _ _ => rfl)) pa_nil)))) (pw_or1 (pt_cmp (pc_lt (pe_var (i := 2) rfl (by first | exact Or.inl rfl | exact Or.inr (Or.inl rfl) | exact Or.inr (Or.inr rfl))) (pe_op op_pow pe_int pe_int)))))) (pss_cons (ps_set (i := 3) sc__law_draw.nd rfl (.inl rfl) (pe_op op_modN (pe_callTy call_int1 rfl F.n_int rfl (pa_cons (pe_op op_add (pe_op op_add (pe_op op_mulOk (pe_var (i := 2) rfl (by first | exact Or.inl rfl | exact Or.inr (Or.inl rfl) | exact Or.inr (Or.inr rfl))) pe_int) (pe_op op_mulOk (pe_ix ix_seq (pe_var (i := 0) rfl (by first | exact Or.inl rfl | exact Or.inr (Or.inl rfl) | exact Or.inr (Or.inr rfl))) pe_int (fun _ _ => rfl)) pe_int)) (pe_ix ix_seq (pe_var (i := 0) rfl (by first | exact Or.inl rfl | exact Or.inr (Or.inl rfl) | exact Or.inr (Or.inr rfl))) pe_int (fun _ _ => rfl))) pa_nil)) pe_int)) (pss_cons (ps_set (i := 4) sc__law_draw.nd rfl (.inl rfl) (pe_op op_modN (pe_callTy call_int1 rfl F.n_int rfl (pa_cons (pe_op op_add (pe_op op_mulOk (pe_var (i := 3) rfl (by first | exact Or.inl rfl | exact Or.inr (Or.inl rfl) | exact Or.inr (Or.inr rfl))) (pe_var (i := 3) rfl (by first | exact Or.inl rfl | exact Or.inr (Or.inl rfl) | exact Or.inr (Or.inr rfl)))) (pe_op op_mulOk (pe_ix ix_seq (pe_var (i := 0) rfl (by first | exact Or.inl rfl | exact Or.inr (Or.inl rfl) | exact Or.inr (Or.inr rfl))) pe_int (fun _ _ => rfl)) pe_int)) pa_nil)) pe_int)) (pss_one (ps_ret (pe_op op_modN (pe_op op_divOk (pe_op op_modN (pe_callTy call_int1 rfl F.n_int rfl (pa_cons (pe_op op_add (pe_op op_mulOk (pe_var (i := 4) rfl (by first | exact Or.inl rfl | exact Or.inr (Or.inl rfl) | exact Or.inr (Or.inr rfl))) pe_int) (pe_var (i := 3) rfl (by first | exact Or.inl rfl | exact Or.inr (Or.inl rfl) | exact Or.inr (Or.inr rfl)))) pa_nil)) pe_int) pe_int) (pe_var (i := 1) rfl (by first | exact Or.inl rfl | exact Or.inr (Or.inl rfl) | exact Or.inr (Or.inr rfl)))))))) pss_nil) (pss_one (ps_asg (pe_var (i := 2) rfl (by first | exact Or.inl rfl | exact Or.inr (Or.inl rfl) | exact Or.inr (Or.inr rfl))) (pg_sub (pe_var (i := 0) rfl (by first | exact Or.inl rfl | exact Or.inr (Or.inl rfl) | exact Or.inr (Or.inr rfl))) pe_int set_list))))))) pss_nil) (pss_cons (ps_set (i := 5) sc__law_draw.nd rfl (.inl rfl) (pe_op op_modN (pe_callTy call_int1 rfl F.n_int rfl (pa_cons (pe_ix ix_seq (pe_var (i := 0) rfl (by first | exact Or.inl rfl | exact Or.inr (Or.inl rfl) | exact Or.inr (Or.inr rfl))) pe_int (fun _ _ => rfl)) pa_nil)) (pe_var (i := 1) rfl (by first | exact Or.inl rfl | exact Or.inr (Or.inl rfl) | exact Or.inr (Or.inr rfl))))) (pss_cons (ps_asg (pe_op op_divOk (pe_callTy call_int1 rfl F.n_int rfl (pa_cons (pe_ix ix_seq (pe_var (i := 0) rfl (by first | exact Or.inl rfl | exact Or.inr (Or.inl rfl) | exact Or.inr (Or.inr rfl))) pe_int (fun _ _ => rfl)) pa_nil)) (pe_var (i := 1) rfl (by first | exact Or.inl rfl | exact Or.inr (Or.inl rfl) | exact Or.inr (Or.inr rfl)))) (pg_sub (pe_var (i := 0) rfl (by first | exact Or.inl rfl | exact Or.inr (Or.inl rfl) | exact Or.inr (Or.inr rfl))) pe_int set_list)) (pss_one (ps_ret (pe_var (i := 5) rfl (by first | exact Or.inl rfl | exact Or.inr (Or.inl rfl) | exact Or.inr (Or.inr rfl)))))))), draw_read (draw_lift h) rfl⟩
theorem fc__law_draw_2 (F : Facts K mg) : FnC P w K mg base 1 (He.ga K "_law_draw") [] (lift K sDraw) := FnOk.c0 (ok__law_draw F) (F.d__law_draw.bindsN fun _ _ _ _ _ _ us hl => match us, hl with | [_, _], _ => rfl)
theorem ok__law_of (F : Facts K mg) : FnOk P w K mg base (L2.CX P w) 2 (He.ga K "_law_of") (fdOf K (He.ga K "_law_of")) ["_law_bag_here", "_law_things"] (lift K sOf) := by
  refine okD F.d__law_of sc__law_of (fun ds k e h => by obtain ⟨d, rfl, _⟩ := h; rfl) fun cdv A outer s0 H E b eo hr Z => ⟨_, dss_one (ds_ret (DE.dt (de_ix (de_var 1) (DE.dt (de_ca (fc__law_draw_2 F) sDraw_mn (hr.mono (by decide)) F.g__law_draw F.d__law_draw.kp cz_none (dca_pos (da_cons (de_var 0) (da_cons (de_callB call_len3 cl_len rfl F.n_len rfl (DE.dt (de_var 1))) (da_nil))))))))), fun ds k h => ?_⟩
  obtain ⟨x, rfl, h0, hl, hk⟩ := h
  exists dl
  have key : ∀ n : Int, n = ((itemsD x).length : Int) → sDraw [D.bag, D.int n] (fun y => dIx x y k) fun x => False := fun n e => by
    have hp : 0 < (itemsD x).length := List.length_pos_iff.mpr h0
    refine ⟨n, rfl, by omega, DivOk.of (n := 30) (by omega) (by unfold Sz; rw [e, Int.natAbs_natCast]; exact Nat.lt_of_le_of_lt hl (by decide)) (by decide), fun d a c => dIx_of hl a (by omega) hk⟩
  cases x with
  | lst ds => exact key _ rfl
  | tup ds => exact key _ rfl
  | str z =>
    have el : (itemsD (.str z)).length = z.length := by simp [itemsD, DL.signs, Str.length]
    exact ⟨by rw [← el]; exact hl, key _ (by rw [el])⟩
  | _ => exact absurd rfl h0
theorem fc__law_of_2 (F : Facts K mg) : FnC P w K mg base 2 (He.ga K "_law_of") [] (lift K sOf) := FnOk.c0 (ok__law_of F) (F.d__law_of.bindsN fun _ _ _ _ _ _ us hl => match us, hl with | [_, _], _ => rfl)
def errT : List (Str × List Str) := [("InvalidNumber", ["given"]), ("InvalidPlaces", ["at"]), ("InvalidTable", ["given"]), ("InvalidKind", ["given"]), ("InvalidTurns", ["at"]), ("InvalidRows", ["at"]), ("InvalidName", ["name"]), ("InvalidText", ["given"]), ("InvalidSign", ["given"]), ("InvalidLine", ["line"]), ("InvalidCommand", ["at"]), ("InvalidPage", ["line"]), ("InvalidLimit", ["given"]), ("DuplicateName", ["name"]), ("InUse", ["name", "users"]), ("Full", ["limit"]), ("TooMany", ["most", "subject"]), ("WrongKind", ["word"]), ("WrongSort", ["name"]), ("Mismatch", []), ("NotPlane", []), ("NotEven", []), ("ZeroDivisor", []), ("Unfit", []), ("UnknownName", ["name"]), ("NothingLeft", [])]
def vals (x y : D) (fl : List Str) : List D := match fl with
  | [] => []
  | [_] => [x]
  | _ => [x, y]
def excR (x y : D) (r : Str × List Str) : D := .exc r.1 (errNs r.2) ((vals x y r.2).reverse ++ [.str r.1])
def s_lcodes : GS := fun ds k _ => ds = [] ∧ k (.lst (errT.map fun r => D.str r.1))
theorem mn_lcodes : MnS s_lcodes := fun ds k k' e e' h1 _ ⟨h, q⟩ => ⟨h, h1 _ q⟩
def s_lerrs : GS := fun ds k _ => ∃ x y, ds = [x, y] ∧ k (.lst (errT.map (excR x y)))
theorem mn_lerrs : MnS s_lerrs := fun ds k k' e e' h1 _ ⟨x, y, h, q⟩ => ⟨x, y, h, h1 _ q⟩
def s_lsorts : GS := fun ds k _ => ∃ c ns fs, ds = [.exc c ns fs] ∧ c ∈ EXC ∧ k (.lst (errT.map fun r => D.bl (inE [r.1] c)))
theorem mn_lsorts : MnS s_lsorts := fun ds k k' e e' h1 _ ⟨c, ns, fs, h, hc, q⟩ => ⟨c, ns, fs, h, hc, h1 _ q⟩
def s_lfield : GS := fun ds k _ => ∃ x y r, ds = [excR x y r] ∧ r ∈ errT ∧ k (.tup (vals x y r.2))
theorem mn_lfield : MnS s_lfield := fun ds k k' e e' h1 _ ⟨x, y, r, h, hr, q⟩ => ⟨x, y, r, h, hr, h1 _ q⟩
theorem exc_of {r : Str × List Str} (h : r ∈ errT) : r.1 ∈ EXC ∧ r.2.length ≤ 2 ∧ (errNs r.2).Nodup := by
  revert r; decide +kernel
theorem ev_code {x y : D} {r : Str × List Str} {g : GE} {σ : StD} (h : Ev g σ (excR x y r)) (hr : r ∈ errT) : Ev (gXf EXC "code" g) σ (.str r.1) := by
  obtain ⟨h1, h2, h3⟩ := exc_of hr
  obtain ⟨c, fl⟩ := r
  refine ev_xf (i := fl.length) h h1 h3 ?_ ?_
  · unfold errNs
    rw [List.getElem?_append_right (by rw [List.length_reverse]; exact Nat.le_refl _), List.length_reverse, Nat.sub_self]; rfl
  · match fl, h2 with
    | [], _ => rfl
    | [_], _ => rfl
    | [_, _], _ => rfl
theorem ev_fl1 {x y : D} {c f : Str} {g : GE} {σ : StD} (h : Ev g σ (excR x y (c, [f]))) (hr : (c, [f]) ∈ errT) : Ev (gXf EXC f g) σ x := ev_xf (i := 0) h (exc_of hr).1 (exc_of hr).2.2 rfl rfl
theorem ev_fl2 {x y : D} {c f f' : Str} {g : GE} {σ : StD} (h : Ev g σ (excR x y (c, [f, f']))) (hr : (c, [f, f']) ∈ errT) : Ev (gXf EXC f g) σ x := ev_xf (i := 1) h (exc_of hr).1 (exc_of hr).2.2 rfl rfl
theorem ev_fl3 {x y : D} {c f f' : Str} {g : GE} {σ : StD} (h : Ev g σ (excR x y (c, [f, f']))) (hr : (c, [f, f']) ∈ errT) : Ev (gXf EXC f' g) σ y := ev_xf (i := 0) h (exc_of hr).1 (exc_of hr).2.2 rfl rfl
theorem ok__law_codes (F : Facts K mg) : FnOk P w K mg base (L2.CX P w) 2 (He.ga K "_law_codes") (fdOf K (He.ga K "_law_codes")) [] (lift K s_lcodes) := by
  refine okD F.d__law_codes sc__law_codes (fun ds k e h => by obtain ⟨rfl, _⟩ := h; rfl) fun cdv A outer s0 H E b eo hr Z => ⟨_, dss_cons (ds_asg (i := 0) sc__law_codes.nd rfl (.inl rfl) (de_lst (da_cons (de_str) (da_cons (de_str) (da_cons (de_str) (da_cons (de_str) (da_cons (de_str) (da_cons (de_str) (da_cons (de_str) (da_cons (de_str) (da_nil)))))))))))
    (dss_cons (ds_asg (i := 0) sc__law_codes.nd rfl (.inl rfl) (de_addB (de_var 0) (de_lst (da_cons (de_str) (da_cons (de_str) (da_cons (de_str) (da_cons (de_str) (da_cons (de_str) (da_cons (de_str) (da_cons (de_str) (da_cons (de_str) (da_nil))))))))))))
    (dss_cons (ds_asg (i := 0) sc__law_codes.nd rfl (.inl rfl) (de_addB (de_var 0) (de_lst (da_cons (de_str) (da_cons (de_str) (da_cons (de_str) (da_cons (de_str) (da_cons (de_str) (da_cons (de_str) (da_cons (de_str) (da_cons (de_str) (da_cons (de_str) (da_nil)))))))))))))
    (dss_one (ds_ret (DE.dt (de_addB (de_var 0) (de_lst (da_cons (de_str) (da_nil))))))))), fun ds k h => ?_⟩
  obtain ⟨rfl, h⟩ := h
  suffices z : Stp _ from z.run
  show Stp (gSeq _ _ _ [SD.unset])
  exists nx; (with_reducible first | apply s_asg | apply s_asgL); exists ev; exists pt
  exists nx; (with_reducible first | apply s_asg | apply s_asgL); exists ev; exists pt
  exists nx; (with_reducible first | apply s_asg | apply s_asgL); exists ev; exists pt
  exists nx; (with_reducible apply s_ret); exists ev
  exact ⟨h⟩
theorem sr_lcodes : SR s_lcodes [] (.lst (errT.map fun r => D.str r.1)) := .mk fun k e q => ⟨rfl, q⟩
local macro_rules
  | `(tactic| exists $i:ident) => match i.getId.eraseMacroScopes with
    | `es => `(tactic| ((with_reducible (first | apply sr_lcodes))))
    | _ => Lean.Macro.throwUnsupported
theorem fc__law_codes_0 (F : Facts K mg) : FnC P w K mg base 2 (He.ga K "_law_codes") [] (lift K s_lcodes) := FnOk.c0 (ok__law_codes F) (F.d__law_codes.bindsN fun _ _ _ _ _ _ us hl => match us, hl with | [], _ => rfl)
theorem ok_InvalidName_init (F : Facts K mg) : FnOk P w K mg base (L2.CX P w) 1 (He.ma K (He.ga K "InvalidName") "__init__") (fdOf K (He.ma K (He.ga K "InvalidName") "__init__")) ["self", "name"] (spErr (He.ga K "InvalidName") "InvalidName" ["name"]) := by
  refine F.d_InvalidName_init.ok sc_InvalidName_init (fun vs H Q E h => by obtain ⟨a, ws, rfl, hl, _⟩ := h; simpa using hl) fun cdv A outer s H vs Q E hr h => ⟨_, (pss_cons (ps_expr (pe_bsinit rfl F.g_StrideError F.base (pa_cons (pe_var (i := 0) rfl (.inl rfl)) (pa_cons pe_str pa_nil)))) (pss_cons (ps_osE .ve (pe_var (i := 0) rfl (.inl rfl)) pe_str) (pss_one (ps_osE .ve (pe_var (i := 0) rfl (.inl rfl)) (pe_var (i := 1) rfl (.inl rfl)))))), ?_⟩
  exact err_read1 F.e_InvalidName.C h rfl
theorem fc_InvalidName_init_1 (F : Facts K mg) : FnC P w K mg base 1 (He.ma K (He.ga K "InvalidName") "__init__") [] (fun vs H Q E => vs.length = 1 + 1 ∧ spErr (He.ga K "InvalidName") "InvalidName" ["name"] (pick (0 :: ([0] : List Nat).map (· + 1)) (vs ++ ([] : List V))) H Q E) := FnOk.ce (n := 1) (ix := [0]) (dvs := []) (ok_InvalidName_init F) (⟨[], .nil, bnd00 F.d_InvalidName_init 2 [] [0, 1] fun _ _ _ _ _ _ us ws h1 h2 => match us, ws, h1, h2 with | [_, _], [], _, _ => rfl⟩)
theorem fc_InvalidName_init_0_name (F : Facts K mg) : FnC P w K mg base 1 (He.ma K (He.ga K "InvalidName") "__init__") ["name"] (fun vs H Q E => vs.length = 1 + 1 ∧ spErr (He.ga K "InvalidName") "InvalidName" ["name"] (pick (0 :: ([0] : List Nat).map (· + 1)) (vs ++ ([] : List V))) H Q E) := FnOk.ce (n := 0) (ix := [0]) (dvs := []) (ok_InvalidName_init F) (⟨[], .nil, bnd00 F.d_InvalidName_init 1 ["name"] [0, 1] fun _ _ _ _ _ _ us ws h1 h2 => match us, ws, h1, h2 with | [_], [_], _, _ => rfl⟩)
theorem ok_InvalidRows_init (F : Facts K mg) : FnOk P w K mg base (L2.CX P w) 1 (He.ma K (He.ga K "InvalidRows") "__init__") (fdOf K (He.ma K (He.ga K "InvalidRows") "__init__")) ["self", "at"] (spErr (He.ga K "InvalidRows") "InvalidRows" ["at"]) := by
  refine F.d_InvalidRows_init.ok sc_InvalidRows_init (fun vs H Q E h => by obtain ⟨a, ws, rfl, hl, _⟩ := h; simpa using hl) fun cdv A outer s H vs Q E hr h => ⟨_, (pss_cons (ps_expr (pe_bsinit rfl F.g_StrideError F.base (pa_cons (pe_var (i := 0) rfl (.inl rfl)) (pa_cons pe_str pa_nil)))) (pss_cons (ps_osE .ve (pe_var (i := 0) rfl (.inl rfl)) pe_str) (pss_one (ps_osE .ve (pe_var (i := 0) rfl (.inl rfl)) (pe_var (i := 1) rfl (.inl rfl)))))), ?_⟩
  exact err_read1 F.e_InvalidRows.C h rfl
theorem fc_InvalidRows_init_1 (F : Facts K mg) : FnC P w K mg base 1 (He.ma K (He.ga K "InvalidRows") "__init__") [] (fun vs H Q E => vs.length = 1 + 1 ∧ spErr (He.ga K "InvalidRows") "InvalidRows" ["at"] (pick (0 :: ([0] : List Nat).map (· + 1)) (vs ++ ([] : List V))) H Q E) := FnOk.ce (n := 1) (ix := [0]) (dvs := []) (ok_InvalidRows_init F) (⟨[], .nil, bnd00 F.d_InvalidRows_init 2 [] [0, 1] fun _ _ _ _ _ _ us ws h1 h2 => match us, ws, h1, h2 with | [_, _], [], _, _ => rfl⟩)
theorem fc_InvalidRows_init_0_at (F : Facts K mg) : FnC P w K mg base 1 (He.ma K (He.ga K "InvalidRows") "__init__") ["at"] (fun vs H Q E => vs.length = 1 + 1 ∧ spErr (He.ga K "InvalidRows") "InvalidRows" ["at"] (pick (0 :: ([0] : List Nat).map (· + 1)) (vs ++ ([] : List V))) H Q E) := FnOk.ce (n := 0) (ix := [0]) (dvs := []) (ok_InvalidRows_init F) (⟨[], .nil, bnd00 F.d_InvalidRows_init 1 ["at"] [0, 1] fun _ _ _ _ _ _ us ws h1 h2 => match us, ws, h1, h2 with | [_], [_], _, _ => rfl⟩)
theorem ok_InvalidTurns_init (F : Facts K mg) : FnOk P w K mg base (L2.CX P w) 1 (He.ma K (He.ga K "InvalidTurns") "__init__") (fdOf K (He.ma K (He.ga K "InvalidTurns") "__init__")) ["self", "at"] (spErr (He.ga K "InvalidTurns") "InvalidTurns" ["at"]) := by
  refine F.d_InvalidTurns_init.ok sc_InvalidTurns_init (fun vs H Q E h => by obtain ⟨a, ws, rfl, hl, _⟩ := h; simpa using hl) fun cdv A outer s H vs Q E hr h => ⟨_, (pss_cons (ps_expr (pe_bsinit rfl F.g_StrideError F.base (pa_cons (pe_var (i := 0) rfl (.inl rfl)) (pa_cons pe_str pa_nil)))) (pss_cons (ps_osE .ve (pe_var (i := 0) rfl (.inl rfl)) pe_str) (pss_one (ps_osE .ve (pe_var (i := 0) rfl (.inl rfl)) (pe_var (i := 1) rfl (.inl rfl)))))), ?_⟩
  exact err_read1 F.e_InvalidTurns.C h rfl
theorem fc_InvalidTurns_init_1 (F : Facts K mg) : FnC P w K mg base 1 (He.ma K (He.ga K "InvalidTurns") "__init__") [] (fun vs H Q E => vs.length = 1 + 1 ∧ spErr (He.ga K "InvalidTurns") "InvalidTurns" ["at"] (pick (0 :: ([0] : List Nat).map (· + 1)) (vs ++ ([] : List V))) H Q E) := FnOk.ce (n := 1) (ix := [0]) (dvs := []) (ok_InvalidTurns_init F) (⟨[], .nil, bnd00 F.d_InvalidTurns_init 2 [] [0, 1] fun _ _ _ _ _ _ us ws h1 h2 => match us, ws, h1, h2 with | [_, _], [], _, _ => rfl⟩)
theorem fc_InvalidTurns_init_0_at (F : Facts K mg) : FnC P w K mg base 1 (He.ma K (He.ga K "InvalidTurns") "__init__") ["at"] (fun vs H Q E => vs.length = 1 + 1 ∧ spErr (He.ga K "InvalidTurns") "InvalidTurns" ["at"] (pick (0 :: ([0] : List Nat).map (· + 1)) (vs ++ ([] : List V))) H Q E) := FnOk.ce (n := 0) (ix := [0]) (dvs := []) (ok_InvalidTurns_init F) (⟨[], .nil, bnd00 F.d_InvalidTurns_init 1 ["at"] [0, 1] fun _ _ _ _ _ _ us ws h1 h2 => match us, ws, h1, h2 with | [_], [_], _, _ => rfl⟩)
theorem ok_InvalidKind_init (F : Facts K mg) : FnOk P w K mg base (L2.CX P w) 1 (He.ma K (He.ga K "InvalidKind") "__init__") (fdOf K (He.ma K (He.ga K "InvalidKind") "__init__")) ["self", "given"] (spErr (He.ga K "InvalidKind") "InvalidKind" ["given"]) := by
  refine F.d_InvalidKind_init.ok sc_InvalidKind_init (fun vs H Q E h => by obtain ⟨a, ws, rfl, hl, _⟩ := h; simpa using hl) fun cdv A outer s H vs Q E hr h => ⟨_, (pss_cons (ps_expr (pe_bsinit rfl F.g_StrideError F.base (pa_cons (pe_var (i := 0) rfl (.inl rfl)) (pa_cons pe_str pa_nil)))) (pss_cons (ps_osE .ve (pe_var (i := 0) rfl (.inl rfl)) pe_str) (pss_one (ps_osE .ve (pe_var (i := 0) rfl (.inl rfl)) (pe_var (i := 1) rfl (.inl rfl)))))), ?_⟩
  exact err_read1 F.e_InvalidKind.C h rfl
theorem fc_InvalidKind_init_1 (F : Facts K mg) : FnC P w K mg base 1 (He.ma K (He.ga K "InvalidKind") "__init__") [] (fun vs H Q E => vs.length = 1 + 1 ∧ spErr (He.ga K "InvalidKind") "InvalidKind" ["given"] (pick (0 :: ([0] : List Nat).map (· + 1)) (vs ++ ([] : List V))) H Q E) := FnOk.ce (n := 1) (ix := [0]) (dvs := []) (ok_InvalidKind_init F) (⟨[], .nil, bnd00 F.d_InvalidKind_init 2 [] [0, 1] fun _ _ _ _ _ _ us ws h1 h2 => match us, ws, h1, h2 with | [_, _], [], _, _ => rfl⟩)
theorem fc_InvalidKind_init_0_given (F : Facts K mg) : FnC P w K mg base 1 (He.ma K (He.ga K "InvalidKind") "__init__") ["given"] (fun vs H Q E => vs.length = 1 + 1 ∧ spErr (He.ga K "InvalidKind") "InvalidKind" ["given"] (pick (0 :: ([0] : List Nat).map (· + 1)) (vs ++ ([] : List V))) H Q E) := FnOk.ce (n := 0) (ix := [0]) (dvs := []) (ok_InvalidKind_init F) (⟨[], .nil, bnd00 F.d_InvalidKind_init 1 ["given"] [0, 1] fun _ _ _ _ _ _ us ws h1 h2 => match us, ws, h1, h2 with | [_], [_], _, _ => rfl⟩)
theorem ok_InvalidTable_init (F : Facts K mg) : FnOk P w K mg base (L2.CX P w) 1 (He.ma K (He.ga K "InvalidTable") "__init__") (fdOf K (He.ma K (He.ga K "InvalidTable") "__init__")) ["self", "given"] (spErr (He.ga K "InvalidTable") "InvalidTable" ["given"]) := by
  refine F.d_InvalidTable_init.ok sc_InvalidTable_init (fun vs H Q E h => by obtain ⟨a, ws, rfl, hl, _⟩ := h; simpa using hl) fun cdv A outer s H vs Q E hr h => ⟨_, (pss_cons (ps_expr (pe_bsinit rfl F.g_StrideError F.base (pa_cons (pe_var (i := 0) rfl (.inl rfl)) (pa_cons pe_str pa_nil)))) (pss_cons (ps_osE .ve (pe_var (i := 0) rfl (.inl rfl)) pe_str) (pss_one (ps_osE .ve (pe_var (i := 0) rfl (.inl rfl)) (pe_var (i := 1) rfl (.inl rfl)))))), ?_⟩
  exact err_read1 F.e_InvalidTable.C h rfl
theorem fc_InvalidTable_init_1 (F : Facts K mg) : FnC P w K mg base 1 (He.ma K (He.ga K "InvalidTable") "__init__") [] (fun vs H Q E => vs.length = 1 + 1 ∧ spErr (He.ga K "InvalidTable") "InvalidTable" ["given"] (pick (0 :: ([0] : List Nat).map (· + 1)) (vs ++ ([] : List V))) H Q E) := FnOk.ce (n := 1) (ix := [0]) (dvs := []) (ok_InvalidTable_init F) (⟨[], .nil, bnd00 F.d_InvalidTable_init 2 [] [0, 1] fun _ _ _ _ _ _ us ws h1 h2 => match us, ws, h1, h2 with | [_, _], [], _, _ => rfl⟩)
theorem fc_InvalidTable_init_0_given (F : Facts K mg) : FnC P w K mg base 1 (He.ma K (He.ga K "InvalidTable") "__init__") ["given"] (fun vs H Q E => vs.length = 1 + 1 ∧ spErr (He.ga K "InvalidTable") "InvalidTable" ["given"] (pick (0 :: ([0] : List Nat).map (· + 1)) (vs ++ ([] : List V))) H Q E) := FnOk.ce (n := 0) (ix := [0]) (dvs := []) (ok_InvalidTable_init F) (⟨[], .nil, bnd00 F.d_InvalidTable_init 1 ["given"] [0, 1] fun _ _ _ _ _ _ us ws h1 h2 => match us, ws, h1, h2 with | [_], [_], _, _ => rfl⟩)
theorem ok_InvalidPlaces_init (F : Facts K mg) : FnOk P w K mg base (L2.CX P w) 1 (He.ma K (He.ga K "InvalidPlaces") "__init__") (fdOf K (He.ma K (He.ga K "InvalidPlaces") "__init__")) ["self", "at"] (spErr (He.ga K "InvalidPlaces") "InvalidPlaces" ["at"]) := by
  refine F.d_InvalidPlaces_init.ok sc_InvalidPlaces_init (fun vs H Q E h => by obtain ⟨a, ws, rfl, hl, _⟩ := h; simpa using hl) fun cdv A outer s H vs Q E hr h => ⟨_, (pss_cons (ps_expr (pe_bsinit rfl F.g_StrideError F.base (pa_cons (pe_var (i := 0) rfl (.inl rfl)) (pa_cons pe_str pa_nil)))) (pss_cons (ps_osE .ve (pe_var (i := 0) rfl (.inl rfl)) pe_str) (pss_one (ps_osE .ve (pe_var (i := 0) rfl (.inl rfl)) (pe_var (i := 1) rfl (.inl rfl)))))), ?_⟩
  exact err_read1 F.e_InvalidPlaces.C h rfl
theorem fc_InvalidPlaces_init_1 (F : Facts K mg) : FnC P w K mg base 1 (He.ma K (He.ga K "InvalidPlaces") "__init__") [] (fun vs H Q E => vs.length = 1 + 1 ∧ spErr (He.ga K "InvalidPlaces") "InvalidPlaces" ["at"] (pick (0 :: ([0] : List Nat).map (· + 1)) (vs ++ ([] : List V))) H Q E) := FnOk.ce (n := 1) (ix := [0]) (dvs := []) (ok_InvalidPlaces_init F) (⟨[], .nil, bnd00 F.d_InvalidPlaces_init 2 [] [0, 1] fun _ _ _ _ _ _ us ws h1 h2 => match us, ws, h1, h2 with | [_, _], [], _, _ => rfl⟩)
theorem fc_InvalidPlaces_init_0_at (F : Facts K mg) : FnC P w K mg base 1 (He.ma K (He.ga K "InvalidPlaces") "__init__") ["at"] (fun vs H Q E => vs.length = 1 + 1 ∧ spErr (He.ga K "InvalidPlaces") "InvalidPlaces" ["at"] (pick (0 :: ([0] : List Nat).map (· + 1)) (vs ++ ([] : List V))) H Q E) := FnOk.ce (n := 0) (ix := [0]) (dvs := []) (ok_InvalidPlaces_init F) (⟨[], .nil, bnd00 F.d_InvalidPlaces_init 1 ["at"] [0, 1] fun _ _ _ _ _ _ us ws h1 h2 => match us, ws, h1, h2 with | [_], [_], _, _ => rfl⟩)
theorem ok_InvalidNumber_init (F : Facts K mg) : FnOk P w K mg base (L2.CX P w) 1 (He.ma K (He.ga K "InvalidNumber") "__init__") (fdOf K (He.ma K (He.ga K "InvalidNumber") "__init__")) ["self", "given"] (spErr (He.ga K "InvalidNumber") "InvalidNumber" ["given"]) := by
  refine F.d_InvalidNumber_init.ok sc_InvalidNumber_init (fun vs H Q E h => by obtain ⟨a, ws, rfl, hl, _⟩ := h; simpa using hl) fun cdv A outer s H vs Q E hr h => ⟨_, (pss_cons (ps_expr (pe_bsinit rfl F.g_StrideError F.base (pa_cons (pe_var (i := 0) rfl (.inl rfl)) (pa_cons pe_str pa_nil)))) (pss_cons (ps_osE .ve (pe_var (i := 0) rfl (.inl rfl)) pe_str) (pss_one (ps_osE .ve (pe_var (i := 0) rfl (.inl rfl)) (pe_var (i := 1) rfl (.inl rfl)))))), ?_⟩
  exact err_read1 F.e_InvalidNumber.C h rfl
theorem fc_InvalidNumber_init_1 (F : Facts K mg) : FnC P w K mg base 1 (He.ma K (He.ga K "InvalidNumber") "__init__") [] (fun vs H Q E => vs.length = 1 + 1 ∧ spErr (He.ga K "InvalidNumber") "InvalidNumber" ["given"] (pick (0 :: ([0] : List Nat).map (· + 1)) (vs ++ ([] : List V))) H Q E) := FnOk.ce (n := 1) (ix := [0]) (dvs := []) (ok_InvalidNumber_init F) (⟨[], .nil, bnd00 F.d_InvalidNumber_init 2 [] [0, 1] fun _ _ _ _ _ _ us ws h1 h2 => match us, ws, h1, h2 with | [_, _], [], _, _ => rfl⟩)
theorem fc_InvalidNumber_init_0_given (F : Facts K mg) : FnC P w K mg base 1 (He.ma K (He.ga K "InvalidNumber") "__init__") ["given"] (fun vs H Q E => vs.length = 1 + 1 ∧ spErr (He.ga K "InvalidNumber") "InvalidNumber" ["given"] (pick (0 :: ([0] : List Nat).map (· + 1)) (vs ++ ([] : List V))) H Q E) := FnOk.ce (n := 0) (ix := [0]) (dvs := []) (ok_InvalidNumber_init F) (⟨[], .nil, bnd00 F.d_InvalidNumber_init 1 ["given"] [0, 1] fun _ _ _ _ _ _ us ws h1 h2 => match us, ws, h1, h2 with | [_], [_], _, _ => rfl⟩)
theorem ok_InvalidLimit_init (F : Facts K mg) : FnOk P w K mg base (L2.CX P w) 1 (He.ma K (He.ga K "InvalidLimit") "__init__") (fdOf K (He.ma K (He.ga K "InvalidLimit") "__init__")) ["self", "given"] (spErr (He.ga K "InvalidLimit") "InvalidLimit" ["given"]) := by
  refine F.d_InvalidLimit_init.ok sc_InvalidLimit_init (fun vs H Q E h => by obtain ⟨a, ws, rfl, hl, _⟩ := h; simpa using hl) fun cdv A outer s H vs Q E hr h => ⟨_, (pss_cons (ps_expr (pe_bsinit rfl F.g_StrideError F.base (pa_cons (pe_var (i := 0) rfl (.inl rfl)) (pa_cons pe_str pa_nil)))) (pss_cons (ps_osE .ve (pe_var (i := 0) rfl (.inl rfl)) pe_str) (pss_one (ps_osE .ve (pe_var (i := 0) rfl (.inl rfl)) (pe_var (i := 1) rfl (.inl rfl)))))), ?_⟩
  exact err_read1 F.e_InvalidLimit.C h rfl
theorem fc_InvalidLimit_init_1 (F : Facts K mg) : FnC P w K mg base 1 (He.ma K (He.ga K "InvalidLimit") "__init__") [] (fun vs H Q E => vs.length = 1 + 1 ∧ spErr (He.ga K "InvalidLimit") "InvalidLimit" ["given"] (pick (0 :: ([0] : List Nat).map (· + 1)) (vs ++ ([] : List V))) H Q E) := FnOk.ce (n := 1) (ix := [0]) (dvs := []) (ok_InvalidLimit_init F) (⟨[], .nil, bnd00 F.d_InvalidLimit_init 2 [] [0, 1] fun _ _ _ _ _ _ us ws h1 h2 => match us, ws, h1, h2 with | [_, _], [], _, _ => rfl⟩)
theorem fc_InvalidLimit_init_0_given (F : Facts K mg) : FnC P w K mg base 1 (He.ma K (He.ga K "InvalidLimit") "__init__") ["given"] (fun vs H Q E => vs.length = 1 + 1 ∧ spErr (He.ga K "InvalidLimit") "InvalidLimit" ["given"] (pick (0 :: ([0] : List Nat).map (· + 1)) (vs ++ ([] : List V))) H Q E) := FnOk.ce (n := 0) (ix := [0]) (dvs := []) (ok_InvalidLimit_init F) (⟨[], .nil, bnd00 F.d_InvalidLimit_init 1 ["given"] [0, 1] fun _ _ _ _ _ _ us ws h1 h2 => match us, ws, h1, h2 with | [_], [_], _, _ => rfl⟩)
theorem ok_InvalidPage_init (F : Facts K mg) : FnOk P w K mg base (L2.CX P w) 1 (He.ma K (He.ga K "InvalidPage") "__init__") (fdOf K (He.ma K (He.ga K "InvalidPage") "__init__")) ["self", "line"] (spErr (He.ga K "InvalidPage") "InvalidPage" ["line"]) := by
  refine F.d_InvalidPage_init.ok sc_InvalidPage_init (fun vs H Q E h => by obtain ⟨a, ws, rfl, hl, _⟩ := h; simpa using hl) fun cdv A outer s H vs Q E hr h => ⟨_, (pss_cons (ps_expr (pe_bsinit rfl F.g_StrideError F.base (pa_cons (pe_var (i := 0) rfl (.inl rfl)) (pa_cons pe_str pa_nil)))) (pss_cons (ps_osE .ve (pe_var (i := 0) rfl (.inl rfl)) pe_str) (pss_one (ps_osE .ve (pe_var (i := 0) rfl (.inl rfl)) (pe_var (i := 1) rfl (.inl rfl)))))), ?_⟩
  exact err_read1 F.e_InvalidPage.C h rfl
theorem fc_InvalidPage_init_1 (F : Facts K mg) : FnC P w K mg base 1 (He.ma K (He.ga K "InvalidPage") "__init__") [] (fun vs H Q E => vs.length = 1 + 1 ∧ spErr (He.ga K "InvalidPage") "InvalidPage" ["line"] (pick (0 :: ([0] : List Nat).map (· + 1)) (vs ++ ([] : List V))) H Q E) := FnOk.ce (n := 1) (ix := [0]) (dvs := []) (ok_InvalidPage_init F) (⟨[], .nil, bnd00 F.d_InvalidPage_init 2 [] [0, 1] fun _ _ _ _ _ _ us ws h1 h2 => match us, ws, h1, h2 with | [_, _], [], _, _ => rfl⟩)
theorem fc_InvalidPage_init_0_line (F : Facts K mg) : FnC P w K mg base 1 (He.ma K (He.ga K "InvalidPage") "__init__") ["line"] (fun vs H Q E => vs.length = 1 + 1 ∧ spErr (He.ga K "InvalidPage") "InvalidPage" ["line"] (pick (0 :: ([0] : List Nat).map (· + 1)) (vs ++ ([] : List V))) H Q E) := FnOk.ce (n := 0) (ix := [0]) (dvs := []) (ok_InvalidPage_init F) (⟨[], .nil, bnd00 F.d_InvalidPage_init 1 ["line"] [0, 1] fun _ _ _ _ _ _ us ws h1 h2 => match us, ws, h1, h2 with | [_], [_], _, _ => rfl⟩)
theorem ok_InvalidCommand_init (F : Facts K mg) : FnOk P w K mg base (L2.CX P w) 1 (He.ma K (He.ga K "InvalidCommand") "__init__") (fdOf K (He.ma K (He.ga K "InvalidCommand") "__init__")) ["self", "at"] (spErr (He.ga K "InvalidCommand") "InvalidCommand" ["at"]) := by
  refine F.d_InvalidCommand_init.ok sc_InvalidCommand_init (fun vs H Q E h => by obtain ⟨a, ws, rfl, hl, _⟩ := h; simpa using hl) fun cdv A outer s H vs Q E hr h => ⟨_, (pss_cons (ps_expr (pe_bsinit rfl F.g_StrideError F.base (pa_cons (pe_var (i := 0) rfl (.inl rfl)) (pa_cons pe_str pa_nil)))) (pss_cons (ps_osE .ve (pe_var (i := 0) rfl (.inl rfl)) pe_str) (pss_one (ps_osE .ve (pe_var (i := 0) rfl (.inl rfl)) (pe_var (i := 1) rfl (.inl rfl)))))), ?_⟩
  exact err_read1 F.e_InvalidCommand.C h rfl
theorem fc_InvalidCommand_init_1 (F : Facts K mg) : FnC P w K mg base 1 (He.ma K (He.ga K "InvalidCommand") "__init__") [] (fun vs H Q E => vs.length = 1 + 1 ∧ spErr (He.ga K "InvalidCommand") "InvalidCommand" ["at"] (pick (0 :: ([0] : List Nat).map (· + 1)) (vs ++ ([] : List V))) H Q E) := FnOk.ce (n := 1) (ix := [0]) (dvs := []) (ok_InvalidCommand_init F) (⟨[], .nil, bnd00 F.d_InvalidCommand_init 2 [] [0, 1] fun _ _ _ _ _ _ us ws h1 h2 => match us, ws, h1, h2 with | [_, _], [], _, _ => rfl⟩)
theorem fc_InvalidCommand_init_0_at (F : Facts K mg) : FnC P w K mg base 1 (He.ma K (He.ga K "InvalidCommand") "__init__") ["at"] (fun vs H Q E => vs.length = 1 + 1 ∧ spErr (He.ga K "InvalidCommand") "InvalidCommand" ["at"] (pick (0 :: ([0] : List Nat).map (· + 1)) (vs ++ ([] : List V))) H Q E) := FnOk.ce (n := 0) (ix := [0]) (dvs := []) (ok_InvalidCommand_init F) (⟨[], .nil, bnd00 F.d_InvalidCommand_init 1 ["at"] [0, 1] fun _ _ _ _ _ _ us ws h1 h2 => match us, ws, h1, h2 with | [_], [_], _, _ => rfl⟩)
theorem ok_InvalidLine_init (F : Facts K mg) : FnOk P w K mg base (L2.CX P w) 1 (He.ma K (He.ga K "InvalidLine") "__init__") (fdOf K (He.ma K (He.ga K "InvalidLine") "__init__")) ["self", "line"] (spErr (He.ga K "InvalidLine") "InvalidLine" ["line"]) := by
  refine F.d_InvalidLine_init.ok sc_InvalidLine_init (fun vs H Q E h => by obtain ⟨a, ws, rfl, hl, _⟩ := h; simpa using hl) fun cdv A outer s H vs Q E hr h => ⟨_, (pss_cons (ps_expr (pe_bsinit rfl F.g_StrideError F.base (pa_cons (pe_var (i := 0) rfl (.inl rfl)) (pa_cons pe_str pa_nil)))) (pss_cons (ps_osE .ve (pe_var (i := 0) rfl (.inl rfl)) pe_str) (pss_one (ps_osE .ve (pe_var (i := 0) rfl (.inl rfl)) (pe_var (i := 1) rfl (.inl rfl)))))), ?_⟩
  exact err_read1 F.e_InvalidLine.C h rfl
theorem fc_InvalidLine_init_1 (F : Facts K mg) : FnC P w K mg base 1 (He.ma K (He.ga K "InvalidLine") "__init__") [] (fun vs H Q E => vs.length = 1 + 1 ∧ spErr (He.ga K "InvalidLine") "InvalidLine" ["line"] (pick (0 :: ([0] : List Nat).map (· + 1)) (vs ++ ([] : List V))) H Q E) := FnOk.ce (n := 1) (ix := [0]) (dvs := []) (ok_InvalidLine_init F) (⟨[], .nil, bnd00 F.d_InvalidLine_init 2 [] [0, 1] fun _ _ _ _ _ _ us ws h1 h2 => match us, ws, h1, h2 with | [_, _], [], _, _ => rfl⟩)
theorem fc_InvalidLine_init_0_line (F : Facts K mg) : FnC P w K mg base 1 (He.ma K (He.ga K "InvalidLine") "__init__") ["line"] (fun vs H Q E => vs.length = 1 + 1 ∧ spErr (He.ga K "InvalidLine") "InvalidLine" ["line"] (pick (0 :: ([0] : List Nat).map (· + 1)) (vs ++ ([] : List V))) H Q E) := FnOk.ce (n := 0) (ix := [0]) (dvs := []) (ok_InvalidLine_init F) (⟨[], .nil, bnd00 F.d_InvalidLine_init 1 ["line"] [0, 1] fun _ _ _ _ _ _ us ws h1 h2 => match us, ws, h1, h2 with | [_], [_], _, _ => rfl⟩)
theorem ok_InvalidSign_init (F : Facts K mg) : FnOk P w K mg base (L2.CX P w) 1 (He.ma K (He.ga K "InvalidSign") "__init__") (fdOf K (He.ma K (He.ga K "InvalidSign") "__init__")) ["self", "given"] (spErr (He.ga K "InvalidSign") "InvalidSign" ["given"]) := by
  refine F.d_InvalidSign_init.ok sc_InvalidSign_init (fun vs H Q E h => by obtain ⟨a, ws, rfl, hl, _⟩ := h; simpa using hl) fun cdv A outer s H vs Q E hr h => ⟨_, (pss_cons (ps_expr (pe_bsinit rfl F.g_StrideError F.base (pa_cons (pe_var (i := 0) rfl (.inl rfl)) (pa_cons pe_str pa_nil)))) (pss_cons (ps_osE .ve (pe_var (i := 0) rfl (.inl rfl)) pe_str) (pss_one (ps_osE .ve (pe_var (i := 0) rfl (.inl rfl)) (pe_var (i := 1) rfl (.inl rfl)))))), ?_⟩
  exact err_read1 F.e_InvalidSign.C h rfl
theorem fc_InvalidSign_init_1 (F : Facts K mg) : FnC P w K mg base 1 (He.ma K (He.ga K "InvalidSign") "__init__") [] (fun vs H Q E => vs.length = 1 + 1 ∧ spErr (He.ga K "InvalidSign") "InvalidSign" ["given"] (pick (0 :: ([0] : List Nat).map (· + 1)) (vs ++ ([] : List V))) H Q E) := FnOk.ce (n := 1) (ix := [0]) (dvs := []) (ok_InvalidSign_init F) (⟨[], .nil, bnd00 F.d_InvalidSign_init 2 [] [0, 1] fun _ _ _ _ _ _ us ws h1 h2 => match us, ws, h1, h2 with | [_, _], [], _, _ => rfl⟩)
theorem fc_InvalidSign_init_0_given (F : Facts K mg) : FnC P w K mg base 1 (He.ma K (He.ga K "InvalidSign") "__init__") ["given"] (fun vs H Q E => vs.length = 1 + 1 ∧ spErr (He.ga K "InvalidSign") "InvalidSign" ["given"] (pick (0 :: ([0] : List Nat).map (· + 1)) (vs ++ ([] : List V))) H Q E) := FnOk.ce (n := 0) (ix := [0]) (dvs := []) (ok_InvalidSign_init F) (⟨[], .nil, bnd00 F.d_InvalidSign_init 1 ["given"] [0, 1] fun _ _ _ _ _ _ us ws h1 h2 => match us, ws, h1, h2 with | [_], [_], _, _ => rfl⟩)
theorem ok_InvalidText_init (F : Facts K mg) : FnOk P w K mg base (L2.CX P w) 1 (He.ma K (He.ga K "InvalidText") "__init__") (fdOf K (He.ma K (He.ga K "InvalidText") "__init__")) ["self", "given"] (spErr (He.ga K "InvalidText") "InvalidText" ["given"]) := by
  refine F.d_InvalidText_init.ok sc_InvalidText_init (fun vs H Q E h => by obtain ⟨a, ws, rfl, hl, _⟩ := h; simpa using hl) fun cdv A outer s H vs Q E hr h => ⟨_, (pss_cons (ps_expr (pe_bsinit rfl F.g_StrideError F.base (pa_cons (pe_var (i := 0) rfl (.inl rfl)) (pa_cons pe_str pa_nil)))) (pss_cons (ps_osE .ve (pe_var (i := 0) rfl (.inl rfl)) pe_str) (pss_one (ps_osE .ve (pe_var (i := 0) rfl (.inl rfl)) (pe_var (i := 1) rfl (.inl rfl)))))), ?_⟩
  exact err_read1 F.e_InvalidText.C h rfl
theorem fc_InvalidText_init_1 (F : Facts K mg) : FnC P w K mg base 1 (He.ma K (He.ga K "InvalidText") "__init__") [] (fun vs H Q E => vs.length = 1 + 1 ∧ spErr (He.ga K "InvalidText") "InvalidText" ["given"] (pick (0 :: ([0] : List Nat).map (· + 1)) (vs ++ ([] : List V))) H Q E) := FnOk.ce (n := 1) (ix := [0]) (dvs := []) (ok_InvalidText_init F) (⟨[], .nil, bnd00 F.d_InvalidText_init 2 [] [0, 1] fun _ _ _ _ _ _ us ws h1 h2 => match us, ws, h1, h2 with | [_, _], [], _, _ => rfl⟩)
theorem fc_InvalidText_init_0_given (F : Facts K mg) : FnC P w K mg base 1 (He.ma K (He.ga K "InvalidText") "__init__") ["given"] (fun vs H Q E => vs.length = 1 + 1 ∧ spErr (He.ga K "InvalidText") "InvalidText" ["given"] (pick (0 :: ([0] : List Nat).map (· + 1)) (vs ++ ([] : List V))) H Q E) := FnOk.ce (n := 0) (ix := [0]) (dvs := []) (ok_InvalidText_init F) (⟨[], .nil, bnd00 F.d_InvalidText_init 1 ["given"] [0, 1] fun _ _ _ _ _ _ us ws h1 h2 => match us, ws, h1, h2 with | [_], [_], _, _ => rfl⟩)
theorem ok_NotPlane_init (F : Facts K mg) : FnOk P w K mg base (L2.CX P w) 1 (He.ma K (He.ga K "NotPlane") "__init__") (fdOf K (He.ma K (He.ga K "NotPlane") "__init__")) ["self"] (spErr (He.ga K "NotPlane") "NotPlane" []) := by
  refine F.d_NotPlane_init.ok sc_NotPlane_init (fun vs H Q E h => by obtain ⟨a, ws, rfl, hl, _⟩ := h; simpa using hl) fun cdv A outer s H vs Q E hr h => ⟨_, (pss_cons (ps_expr (pe_bsinit rfl F.g_StrideError F.base (pa_cons (pe_var (i := 0) rfl (.inl rfl)) (pa_cons pe_str pa_nil)))) (pss_one (ps_osE .ve (pe_var (i := 0) rfl (.inl rfl)) pe_str))), ?_⟩
  exact err_read0 F.e_NotPlane.C h rfl
theorem fc_NotPlane_init_0 (F : Facts K mg) : FnC P w K mg base 1 (He.ma K (He.ga K "NotPlane") "__init__") [] (fun vs H Q E => vs.length = 0 + 1 ∧ spErr (He.ga K "NotPlane") "NotPlane" [] (pick (0 :: ([] : List Nat).map (· + 1)) (vs ++ ([] : List V))) H Q E) := FnOk.ce (n := 0) (ix := []) (dvs := []) (ok_NotPlane_init F) (⟨[], .nil, bnd00 F.d_NotPlane_init 1 [] [0] fun _ _ _ _ _ _ us ws h1 h2 => match us, ws, h1, h2 with | [_], [], _, _ => rfl⟩)
theorem ok_Mismatch_init (F : Facts K mg) : FnOk P w K mg base (L2.CX P w) 1 (He.ma K (He.ga K "Mismatch") "__init__") (fdOf K (He.ma K (He.ga K "Mismatch") "__init__")) ["self"] (spErr (He.ga K "Mismatch") "Mismatch" []) := by
  refine F.d_Mismatch_init.ok sc_Mismatch_init (fun vs H Q E h => by obtain ⟨a, ws, rfl, hl, _⟩ := h; simpa using hl) fun cdv A outer s H vs Q E hr h => ⟨_, (pss_cons (ps_expr (pe_bsinit rfl F.g_StrideError F.base (pa_cons (pe_var (i := 0) rfl (.inl rfl)) (pa_cons pe_str pa_nil)))) (pss_one (ps_osE .ve (pe_var (i := 0) rfl (.inl rfl)) pe_str))), ?_⟩
  exact err_read0 F.e_Mismatch.C h rfl
theorem fc_Mismatch_init_0 (F : Facts K mg) : FnC P w K mg base 1 (He.ma K (He.ga K "Mismatch") "__init__") [] (fun vs H Q E => vs.length = 0 + 1 ∧ spErr (He.ga K "Mismatch") "Mismatch" [] (pick (0 :: ([] : List Nat).map (· + 1)) (vs ++ ([] : List V))) H Q E) := FnOk.ce (n := 0) (ix := []) (dvs := []) (ok_Mismatch_init F) (⟨[], .nil, bnd00 F.d_Mismatch_init 1 [] [0] fun _ _ _ _ _ _ us ws h1 h2 => match us, ws, h1, h2 with | [_], [], _, _ => rfl⟩)
theorem ok_WrongSort_init (F : Facts K mg) : FnOk P w K mg base (L2.CX P w) 1 (He.ma K (He.ga K "WrongSort") "__init__") (fdOf K (He.ma K (He.ga K "WrongSort") "__init__")) ["self", "name"] (spErr (He.ga K "WrongSort") "WrongSort" ["name"]) := by
  refine F.d_WrongSort_init.ok sc_WrongSort_init (fun vs H Q E h => by obtain ⟨a, ws, rfl, hl, _⟩ := h; simpa using hl) fun cdv A outer s H vs Q E hr h => ⟨_, (pss_cons (ps_expr (pe_bsinit rfl F.g_StrideError F.base (pa_cons (pe_var (i := 0) rfl (.inl rfl)) (pa_cons pe_str pa_nil)))) (pss_cons (ps_osE .ve (pe_var (i := 0) rfl (.inl rfl)) pe_str) (pss_one (ps_osE .ve (pe_var (i := 0) rfl (.inl rfl)) (pe_var (i := 1) rfl (.inl rfl)))))), ?_⟩
  exact err_read1 F.e_WrongSort.C h rfl
theorem fc_WrongSort_init_1 (F : Facts K mg) : FnC P w K mg base 1 (He.ma K (He.ga K "WrongSort") "__init__") [] (fun vs H Q E => vs.length = 1 + 1 ∧ spErr (He.ga K "WrongSort") "WrongSort" ["name"] (pick (0 :: ([0] : List Nat).map (· + 1)) (vs ++ ([] : List V))) H Q E) := FnOk.ce (n := 1) (ix := [0]) (dvs := []) (ok_WrongSort_init F) (⟨[], .nil, bnd00 F.d_WrongSort_init 2 [] [0, 1] fun _ _ _ _ _ _ us ws h1 h2 => match us, ws, h1, h2 with | [_, _], [], _, _ => rfl⟩)
theorem fc_WrongSort_init_0_name (F : Facts K mg) : FnC P w K mg base 1 (He.ma K (He.ga K "WrongSort") "__init__") ["name"] (fun vs H Q E => vs.length = 1 + 1 ∧ spErr (He.ga K "WrongSort") "WrongSort" ["name"] (pick (0 :: ([0] : List Nat).map (· + 1)) (vs ++ ([] : List V))) H Q E) := FnOk.ce (n := 0) (ix := [0]) (dvs := []) (ok_WrongSort_init F) (⟨[], .nil, bnd00 F.d_WrongSort_init 1 ["name"] [0, 1] fun _ _ _ _ _ _ us ws h1 h2 => match us, ws, h1, h2 with | [_], [_], _, _ => rfl⟩)
theorem ok_WrongKind_init (F : Facts K mg) : FnOk P w K mg base (L2.CX P w) 1 (He.ma K (He.ga K "WrongKind") "__init__") (fdOf K (He.ma K (He.ga K "WrongKind") "__init__")) ["self", "word"] (spErr (He.ga K "WrongKind") "WrongKind" ["word"]) := by
  refine F.d_WrongKind_init.ok sc_WrongKind_init (fun vs H Q E h => by obtain ⟨a, ws, rfl, hl, _⟩ := h; simpa using hl) fun cdv A outer s H vs Q E hr h => ⟨_, (pss_cons (ps_expr (pe_bsinit rfl F.g_StrideError F.base (pa_cons (pe_var (i := 0) rfl (.inl rfl)) (pa_cons pe_str pa_nil)))) (pss_cons (ps_osE .ve (pe_var (i := 0) rfl (.inl rfl)) pe_str) (pss_one (ps_osE .ve (pe_var (i := 0) rfl (.inl rfl)) (pe_var (i := 1) rfl (.inl rfl)))))), ?_⟩
  exact err_read1 F.e_WrongKind.C h rfl
theorem fc_WrongKind_init_1 (F : Facts K mg) : FnC P w K mg base 1 (He.ma K (He.ga K "WrongKind") "__init__") [] (fun vs H Q E => vs.length = 1 + 1 ∧ spErr (He.ga K "WrongKind") "WrongKind" ["word"] (pick (0 :: ([0] : List Nat).map (· + 1)) (vs ++ ([] : List V))) H Q E) := FnOk.ce (n := 1) (ix := [0]) (dvs := []) (ok_WrongKind_init F) (⟨[], .nil, bnd00 F.d_WrongKind_init 2 [] [0, 1] fun _ _ _ _ _ _ us ws h1 h2 => match us, ws, h1, h2 with | [_, _], [], _, _ => rfl⟩)
theorem fc_WrongKind_init_0_word (F : Facts K mg) : FnC P w K mg base 1 (He.ma K (He.ga K "WrongKind") "__init__") ["word"] (fun vs H Q E => vs.length = 1 + 1 ∧ spErr (He.ga K "WrongKind") "WrongKind" ["word"] (pick (0 :: ([0] : List Nat).map (· + 1)) (vs ++ ([] : List V))) H Q E) := FnOk.ce (n := 0) (ix := [0]) (dvs := []) (ok_WrongKind_init F) (⟨[], .nil, bnd00 F.d_WrongKind_init 1 ["word"] [0, 1] fun _ _ _ _ _ _ us ws h1 h2 => match us, ws, h1, h2 with | [_], [_], _, _ => rfl⟩)
theorem ok_TooMany_init (F : Facts K mg) : FnOk P w K mg base (L2.CX P w) 1 (He.ma K (He.ga K "TooMany") "__init__") (fdOf K (He.ma K (He.ga K "TooMany") "__init__")) ["self", "most", "subject"] (spErr (He.ga K "TooMany") "TooMany" ["most", "subject"]) := by
  refine F.d_TooMany_init.ok sc_TooMany_init (fun vs H Q E h => by obtain ⟨a, ws, rfl, hl, _⟩ := h; simpa using hl) fun cdv A outer s H vs Q E hr h => ⟨_, (pss_cons (ps_expr (pe_bsinit rfl F.g_StrideError F.base (pa_cons (pe_var (i := 0) rfl (.inl rfl)) (pa_cons pe_str pa_nil)))) (pss_cons (ps_osE .ve (pe_var (i := 0) rfl (.inl rfl)) pe_str) (pss_cons (ps_osE .ve (pe_var (i := 0) rfl (.inl rfl)) (pe_var (i := 1) rfl (.inl rfl))) (pss_one (ps_osE .ve (pe_var (i := 0) rfl (.inl rfl)) (pe_var (i := 2) rfl (.inl rfl))))))), ?_⟩
  exact err_read2 F.e_TooMany.C h rfl
theorem fc_TooMany_init_2 (F : Facts K mg) : FnC P w K mg base 1 (He.ma K (He.ga K "TooMany") "__init__") [] (fun vs H Q E => vs.length = 2 + 1 ∧ spErr (He.ga K "TooMany") "TooMany" ["most", "subject"] (pick (0 :: ([0, 1] : List Nat).map (· + 1)) (vs ++ ([.str "arrows"] : List V))) H Q E) := FnOk.ce (n := 2) (ix := [0, 1]) (dvs := [.str "arrows"]) (ok_TooMany_init F) (bnd10 F.d_TooMany_init 3 [] [0, 1, 2] (by simp) fun _ _ _ _ _ _ _ us its ws h1 h2 h3 => match us, its, ws, h1, h2, h3 with | [_, _, _], [_], [], _, _, _ => ⟨_, rfl, rfl⟩)
theorem fc_TooMany_init_0_subject_most (F : Facts K mg) : FnC P w K mg base 1 (He.ma K (He.ga K "TooMany") "__init__") ["subject", "most"] (fun vs H Q E => vs.length = 2 + 1 ∧ spErr (He.ga K "TooMany") "TooMany" ["most", "subject"] (pick (0 :: ([1, 0] : List Nat).map (· + 1)) (vs ++ ([.str "arrows"] : List V))) H Q E) := FnOk.ce (n := 0) (ix := [1, 0]) (dvs := [.str "arrows"]) (ok_TooMany_init F) (bnd10 F.d_TooMany_init 1 ["subject", "most"] [0, 2, 1] (by simp) fun _ _ _ _ _ _ _ us its ws h1 h2 h3 => match us, its, ws, h1, h2, h3 with | [_], [_], [_, _], _, _, _ => ⟨_, rfl, rfl⟩)
theorem fc_TooMany_init_1 (F : Facts K mg) : FnC P w K mg base 1 (He.ma K (He.ga K "TooMany") "__init__") [] (fun vs H Q E => vs.length = 1 + 1 ∧ spErr (He.ga K "TooMany") "TooMany" ["most", "subject"] (pick (0 :: ([0, 1] : List Nat).map (· + 1)) (vs ++ ([.str "arrows"] : List V))) H Q E) := FnOk.ce (n := 1) (ix := [0, 1]) (dvs := [.str "arrows"]) (ok_TooMany_init F) (bnd10 F.d_TooMany_init 2 [] [0, 1, 2] (by simp) fun _ _ _ _ _ _ _ us its ws h1 h2 h3 => match us, its, ws, h1, h2, h3 with | [_, _], [_], [], _, _, _ => ⟨_, rfl, rfl⟩)
theorem ok_Full_init (F : Facts K mg) : FnOk P w K mg base (L2.CX P w) 1 (He.ma K (He.ga K "Full") "__init__") (fdOf K (He.ma K (He.ga K "Full") "__init__")) ["self", "limit"] (spErr (He.ga K "Full") "Full" ["limit"]) := by
  refine F.d_Full_init.ok sc_Full_init (fun vs H Q E h => by obtain ⟨a, ws, rfl, hl, _⟩ := h; simpa using hl) fun cdv A outer s H vs Q E hr h => ⟨_, (pss_cons (ps_expr (pe_bsinit rfl F.g_StrideError F.base (pa_cons (pe_var (i := 0) rfl (.inl rfl)) (pa_cons pe_str pa_nil)))) (pss_cons (ps_osE .ve (pe_var (i := 0) rfl (.inl rfl)) pe_str) (pss_one (ps_osE .ve (pe_var (i := 0) rfl (.inl rfl)) (pe_var (i := 1) rfl (.inl rfl)))))), ?_⟩
  exact err_read1 F.e_Full.C h rfl
theorem fc_Full_init_1 (F : Facts K mg) : FnC P w K mg base 1 (He.ma K (He.ga K "Full") "__init__") [] (fun vs H Q E => vs.length = 1 + 1 ∧ spErr (He.ga K "Full") "Full" ["limit"] (pick (0 :: ([0] : List Nat).map (· + 1)) (vs ++ ([] : List V))) H Q E) := FnOk.ce (n := 1) (ix := [0]) (dvs := []) (ok_Full_init F) (⟨[], .nil, bnd00 F.d_Full_init 2 [] [0, 1] fun _ _ _ _ _ _ us ws h1 h2 => match us, ws, h1, h2 with | [_, _], [], _, _ => rfl⟩)
theorem fc_Full_init_0_limit (F : Facts K mg) : FnC P w K mg base 1 (He.ma K (He.ga K "Full") "__init__") ["limit"] (fun vs H Q E => vs.length = 1 + 1 ∧ spErr (He.ga K "Full") "Full" ["limit"] (pick (0 :: ([0] : List Nat).map (· + 1)) (vs ++ ([] : List V))) H Q E) := FnOk.ce (n := 0) (ix := [0]) (dvs := []) (ok_Full_init F) (⟨[], .nil, bnd00 F.d_Full_init 1 ["limit"] [0, 1] fun _ _ _ _ _ _ us ws h1 h2 => match us, ws, h1, h2 with | [_], [_], _, _ => rfl⟩)
theorem ok_InUse_init (F : Facts K mg) : FnOk P w K mg base (L2.CX P w) 1 (He.ma K (He.ga K "InUse") "__init__") (fdOf K (He.ma K (He.ga K "InUse") "__init__")) ["self", "name", "users"] (spErr (He.ga K "InUse") "InUse" ["name", "users"]) := by
  refine F.d_InUse_init.ok sc_InUse_init (fun vs H Q E h => by obtain ⟨a, ws, rfl, hl, _⟩ := h; simpa using hl) fun cdv A outer s H vs Q E hr h => ⟨_, (pss_cons (ps_expr (pe_bsinit rfl F.g_StrideError F.base (pa_cons (pe_var (i := 0) rfl (.inl rfl)) (pa_cons pe_str pa_nil)))) (pss_cons (ps_osE .ve (pe_var (i := 0) rfl (.inl rfl)) pe_str) (pss_cons (ps_osE .ve (pe_var (i := 0) rfl (.inl rfl)) (pe_var (i := 1) rfl (.inl rfl))) (pss_one (ps_osE .ve (pe_var (i := 0) rfl (.inl rfl)) (pe_var (i := 2) rfl (.inl rfl))))))), ?_⟩
  exact err_read2 F.e_InUse.C h rfl
theorem fc_InUse_init_2 (F : Facts K mg) : FnC P w K mg base 1 (He.ma K (He.ga K "InUse") "__init__") [] (fun vs H Q E => vs.length = 2 + 1 ∧ spErr (He.ga K "InUse") "InUse" ["name", "users"] (pick (0 :: ([0, 1] : List Nat).map (· + 1)) (vs ++ ([] : List V))) H Q E) := FnOk.ce (n := 2) (ix := [0, 1]) (dvs := []) (ok_InUse_init F) (⟨[], .nil, bnd00 F.d_InUse_init 3 [] [0, 1, 2] fun _ _ _ _ _ _ us ws h1 h2 => match us, ws, h1, h2 with | [_, _, _], [], _, _ => rfl⟩)
theorem fc_InUse_init_0_users_name (F : Facts K mg) : FnC P w K mg base 1 (He.ma K (He.ga K "InUse") "__init__") ["users", "name"] (fun vs H Q E => vs.length = 2 + 1 ∧ spErr (He.ga K "InUse") "InUse" ["name", "users"] (pick (0 :: ([1, 0] : List Nat).map (· + 1)) (vs ++ ([] : List V))) H Q E) := FnOk.ce (n := 0) (ix := [1, 0]) (dvs := []) (ok_InUse_init F) (⟨[], .nil, bnd00 F.d_InUse_init 1 ["users", "name"] [0, 2, 1] fun _ _ _ _ _ _ us ws h1 h2 => match us, ws, h1, h2 with | [_], [_, _], _, _ => rfl⟩)
theorem ok_DuplicateName_init (F : Facts K mg) : FnOk P w K mg base (L2.CX P w) 1 (He.ma K (He.ga K "DuplicateName") "__init__") (fdOf K (He.ma K (He.ga K "DuplicateName") "__init__")) ["self", "name"] (spErr (He.ga K "DuplicateName") "DuplicateName" ["name"]) := by
  refine F.d_DuplicateName_init.ok sc_DuplicateName_init (fun vs H Q E h => by obtain ⟨a, ws, rfl, hl, _⟩ := h; simpa using hl) fun cdv A outer s H vs Q E hr h => ⟨_, (pss_cons (ps_expr (pe_bsinit rfl F.g_StrideError F.base (pa_cons (pe_var (i := 0) rfl (.inl rfl)) (pa_cons pe_str pa_nil)))) (pss_cons (ps_osE .ve (pe_var (i := 0) rfl (.inl rfl)) pe_str) (pss_one (ps_osE .ve (pe_var (i := 0) rfl (.inl rfl)) (pe_var (i := 1) rfl (.inl rfl)))))), ?_⟩
  exact err_read1 F.e_DuplicateName.C h rfl
theorem fc_DuplicateName_init_1 (F : Facts K mg) : FnC P w K mg base 1 (He.ma K (He.ga K "DuplicateName") "__init__") [] (fun vs H Q E => vs.length = 1 + 1 ∧ spErr (He.ga K "DuplicateName") "DuplicateName" ["name"] (pick (0 :: ([0] : List Nat).map (· + 1)) (vs ++ ([] : List V))) H Q E) := FnOk.ce (n := 1) (ix := [0]) (dvs := []) (ok_DuplicateName_init F) (⟨[], .nil, bnd00 F.d_DuplicateName_init 2 [] [0, 1] fun _ _ _ _ _ _ us ws h1 h2 => match us, ws, h1, h2 with | [_, _], [], _, _ => rfl⟩)
theorem fc_DuplicateName_init_0_name (F : Facts K mg) : FnC P w K mg base 1 (He.ma K (He.ga K "DuplicateName") "__init__") ["name"] (fun vs H Q E => vs.length = 1 + 1 ∧ spErr (He.ga K "DuplicateName") "DuplicateName" ["name"] (pick (0 :: ([0] : List Nat).map (· + 1)) (vs ++ ([] : List V))) H Q E) := FnOk.ce (n := 0) (ix := [0]) (dvs := []) (ok_DuplicateName_init F) (⟨[], .nil, bnd00 F.d_DuplicateName_init 1 ["name"] [0, 1] fun _ _ _ _ _ _ us ws h1 h2 => match us, ws, h1, h2 with | [_], [_], _, _ => rfl⟩)
theorem ok_NothingLeft_init (F : Facts K mg) : FnOk P w K mg base (L2.CX P w) 1 (He.ma K (He.ga K "NothingLeft") "__init__") (fdOf K (He.ma K (He.ga K "NothingLeft") "__init__")) ["self"] (spErr (He.ga K "NothingLeft") "NothingLeft" []) := by
  refine F.d_NothingLeft_init.ok sc_NothingLeft_init (fun vs H Q E h => by obtain ⟨a, ws, rfl, hl, _⟩ := h; simpa using hl) fun cdv A outer s H vs Q E hr h => ⟨_, (pss_cons (ps_expr (pe_ieinit rfl F.n_IndexError F.baseI (pa_cons (pe_var (i := 0) rfl (.inl rfl)) (pa_cons pe_str pa_nil)))) (pss_one (ps_osE .ie (pe_var (i := 0) rfl (.inl rfl)) pe_str))), ?_⟩
  exact err_read0 F.e_NothingLeft.C h rfl
theorem fc_NothingLeft_init_0 (F : Facts K mg) : FnC P w K mg base 1 (He.ma K (He.ga K "NothingLeft") "__init__") [] (fun vs H Q E => vs.length = 0 + 1 ∧ spErr (He.ga K "NothingLeft") "NothingLeft" [] (pick (0 :: ([] : List Nat).map (· + 1)) (vs ++ ([] : List V))) H Q E) := FnOk.ce (n := 0) (ix := []) (dvs := []) (ok_NothingLeft_init F) (⟨[], .nil, bnd00 F.d_NothingLeft_init 1 [] [0] fun _ _ _ _ _ _ us ws h1 h2 => match us, ws, h1, h2 with | [_], [], _, _ => rfl⟩)
theorem ok_UnknownName_init (F : Facts K mg) : FnOk P w K mg base (L2.CX P w) 1 (He.ma K (He.ga K "UnknownName") "__init__") (fdOf K (He.ma K (He.ga K "UnknownName") "__init__")) ["self", "name"] (spErr (He.ga K "UnknownName") "UnknownName" ["name"]) := by
  refine F.d_UnknownName_init.ok sc_UnknownName_init (fun vs H Q E h => by obtain ⟨a, ws, rfl, hl, _⟩ := h; simpa using hl) fun cdv A outer s H vs Q E hr h => ⟨_, (pss_cons (ps_expr (pe_bsinit rfl F.g_Missing F.baseM (pa_cons (pe_var (i := 0) rfl (.inl rfl)) (pa_cons pe_str pa_nil)))) (pss_cons (ps_osE .le (pe_var (i := 0) rfl (.inl rfl)) pe_str) (pss_one (ps_osE .le (pe_var (i := 0) rfl (.inl rfl)) (pe_var (i := 1) rfl (.inl rfl)))))), ?_⟩
  exact err_read1 F.e_UnknownName.C h rfl
theorem fc_UnknownName_init_1 (F : Facts K mg) : FnC P w K mg base 1 (He.ma K (He.ga K "UnknownName") "__init__") [] (fun vs H Q E => vs.length = 1 + 1 ∧ spErr (He.ga K "UnknownName") "UnknownName" ["name"] (pick (0 :: ([0] : List Nat).map (· + 1)) (vs ++ ([] : List V))) H Q E) := FnOk.ce (n := 1) (ix := [0]) (dvs := []) (ok_UnknownName_init F) (⟨[], .nil, bnd00 F.d_UnknownName_init 2 [] [0, 1] fun _ _ _ _ _ _ us ws h1 h2 => match us, ws, h1, h2 with | [_, _], [], _, _ => rfl⟩)
theorem fc_UnknownName_init_0_name (F : Facts K mg) : FnC P w K mg base 1 (He.ma K (He.ga K "UnknownName") "__init__") ["name"] (fun vs H Q E => vs.length = 1 + 1 ∧ spErr (He.ga K "UnknownName") "UnknownName" ["name"] (pick (0 :: ([0] : List Nat).map (· + 1)) (vs ++ ([] : List V))) H Q E) := FnOk.ce (n := 0) (ix := [0]) (dvs := []) (ok_UnknownName_init F) (⟨[], .nil, bnd00 F.d_UnknownName_init 1 ["name"] [0, 1] fun _ _ _ _ _ _ us ws h1 h2 => match us, ws, h1, h2 with | [_], [_], _, _ => rfl⟩)
theorem ok_Unfit_init (F : Facts K mg) : FnOk P w K mg base (L2.CX P w) 1 (He.ma K (He.ga K "Unfit") "__init__") (fdOf K (He.ma K (He.ga K "Unfit") "__init__")) ["self"] (spErr (He.ga K "Unfit") "Unfit" []) := by
  refine F.d_Unfit_init.ok sc_Unfit_init (fun vs H Q E h => by obtain ⟨a, ws, rfl, hl, _⟩ := h; simpa using hl) fun cdv A outer s H vs Q E hr h => ⟨_, (pss_cons (ps_expr (pe_bsinit rfl F.g_StrideError F.base (pa_cons (pe_var (i := 0) rfl (.inl rfl)) (pa_cons pe_str pa_nil)))) (pss_one (ps_osE .ve (pe_var (i := 0) rfl (.inl rfl)) pe_str))), ?_⟩
  exact err_read0 F.e_Unfit.C h rfl
theorem fc_Unfit_init_0 (F : Facts K mg) : FnC P w K mg base 1 (He.ma K (He.ga K "Unfit") "__init__") [] (fun vs H Q E => vs.length = 0 + 1 ∧ spErr (He.ga K "Unfit") "Unfit" [] (pick (0 :: ([] : List Nat).map (· + 1)) (vs ++ ([] : List V))) H Q E) := FnOk.ce (n := 0) (ix := []) (dvs := []) (ok_Unfit_init F) (⟨[], .nil, bnd00 F.d_Unfit_init 1 [] [0] fun _ _ _ _ _ _ us ws h1 h2 => match us, ws, h1, h2 with | [_], [], _, _ => rfl⟩)
theorem ok_ZeroDivisor_init (F : Facts K mg) : FnOk P w K mg base (L2.CX P w) 1 (He.ma K (He.ga K "ZeroDivisor") "__init__") (fdOf K (He.ma K (He.ga K "ZeroDivisor") "__init__")) ["self"] (spErr (He.ga K "ZeroDivisor") "ZeroDivisor" []) := by
  refine F.d_ZeroDivisor_init.ok sc_ZeroDivisor_init (fun vs H Q E h => by obtain ⟨a, ws, rfl, hl, _⟩ := h; simpa using hl) fun cdv A outer s H vs Q E hr h => ⟨_, (pss_cons (ps_expr (pe_bsinit rfl F.g_StrideError F.base (pa_cons (pe_var (i := 0) rfl (.inl rfl)) (pa_cons pe_str pa_nil)))) (pss_one (ps_osE .ve (pe_var (i := 0) rfl (.inl rfl)) pe_str))), ?_⟩
  exact err_read0 F.e_ZeroDivisor.C h rfl
theorem fc_ZeroDivisor_init_0 (F : Facts K mg) : FnC P w K mg base 1 (He.ma K (He.ga K "ZeroDivisor") "__init__") [] (fun vs H Q E => vs.length = 0 + 1 ∧ spErr (He.ga K "ZeroDivisor") "ZeroDivisor" [] (pick (0 :: ([] : List Nat).map (· + 1)) (vs ++ ([] : List V))) H Q E) := FnOk.ce (n := 0) (ix := []) (dvs := []) (ok_ZeroDivisor_init F) (⟨[], .nil, bnd00 F.d_ZeroDivisor_init 1 [] [0] fun _ _ _ _ _ _ us ws h1 h2 => match us, ws, h1, h2 with | [_], [], _, _ => rfl⟩)
theorem ok_NotEven_init (F : Facts K mg) : FnOk P w K mg base (L2.CX P w) 1 (He.ma K (He.ga K "NotEven") "__init__") (fdOf K (He.ma K (He.ga K "NotEven") "__init__")) ["self"] (spErr (He.ga K "NotEven") "NotEven" []) := by
  refine F.d_NotEven_init.ok sc_NotEven_init (fun vs H Q E h => by obtain ⟨a, ws, rfl, hl, _⟩ := h; simpa using hl) fun cdv A outer s H vs Q E hr h => ⟨_, (pss_cons (ps_expr (pe_bsinit rfl F.g_StrideError F.base (pa_cons (pe_var (i := 0) rfl (.inl rfl)) (pa_cons pe_str pa_nil)))) (pss_one (ps_osE .ve (pe_var (i := 0) rfl (.inl rfl)) pe_str))), ?_⟩
  exact err_read0 F.e_NotEven.C h rfl
theorem fc_NotEven_init_0 (F : Facts K mg) : FnC P w K mg base 1 (He.ma K (He.ga K "NotEven") "__init__") [] (fun vs H Q E => vs.length = 0 + 1 ∧ spErr (He.ga K "NotEven") "NotEven" [] (pick (0 :: ([] : List Nat).map (· + 1)) (vs ++ ([] : List V))) H Q E) := FnOk.ce (n := 0) (ix := []) (dvs := []) (ok_NotEven_init F) (⟨[], .nil, bnd00 F.d_NotEven_init 1 [] [0] fun _ _ _ _ _ _ us ws h1 h2 => match us, ws, h1, h2 with | [_], [], _, _ => rfl⟩)
theorem ok__law_errors (F : Facts K mg) : FnOk P w K mg base (L2.CX P w) 3 (He.ga K "_law_errors") (fdOf K (He.ga K "_law_errors")) ["_law_x", "_law_y"] (lift K s_lerrs) := by
  refine okD F.d__law_errors sc__law_errors (fun ds k e h => by obtain ⟨x, y, rfl, _⟩ := h; rfl) fun cdv A outer s0 H E b eo hr Z => ⟨_, dss_cons (ds_asg (i := 2) sc__law_errors.nd rfl (.inl rfl) (de_lst (da_cons (de_excK (n := 1) (ix := [0]) (dd := []) (dvs := []) F.e_InvalidNumber (fc_InvalidNumber_init_1 F) (hr.mono (by decide)) (fun _ _ => Reps.nil) (passes_call (takes_of rfl rfl rfl rfl) fun _ _ _ _ z => z.elim) rfl F.g_InvalidNumber (dca_pos (da_cons (de_var 0) (da_nil)))) (da_cons (de_excK (n := 1) (ix := [0]) (dd := []) (dvs := []) F.e_InvalidPlaces (fc_InvalidPlaces_init_1 F) (hr.mono (by decide)) (fun _ _ => Reps.nil) (passes_call (takes_of rfl rfl rfl rfl) fun _ _ _ _ z => z.elim) rfl F.g_InvalidPlaces (dca_pos (da_cons (de_var 0) (da_nil)))) (da_cons (de_excK (n := 1) (ix := [0]) (dd := []) (dvs := []) F.e_InvalidTable (fc_InvalidTable_init_1 F) (hr.mono (by decide)) (fun _ _ => Reps.nil) (passes_call (takes_of rfl rfl rfl rfl) fun _ _ _ _ z => z.elim) rfl F.g_InvalidTable (dca_pos (da_cons (de_var 0) (da_nil)))) (da_cons (de_excK (n := 1) (ix := [0]) (dd := []) (dvs := []) F.e_InvalidKind (fc_InvalidKind_init_1 F) (hr.mono (by decide)) (fun _ _ => Reps.nil) (passes_call (takes_of rfl rfl rfl rfl) fun _ _ _ _ z => z.elim) rfl F.g_InvalidKind (dca_pos (da_cons (de_var 0) (da_nil)))) (da_cons (de_excK (n := 1) (ix := [0]) (dd := []) (dvs := []) F.e_InvalidTurns (fc_InvalidTurns_init_1 F) (hr.mono (by decide)) (fun _ _ => Reps.nil) (passes_call (takes_of rfl rfl rfl rfl) fun _ _ _ _ z => z.elim) rfl F.g_InvalidTurns (dca_pos (da_cons (de_var 0) (da_nil)))) (da_cons (de_excK (n := 1) (ix := [0]) (dd := []) (dvs := []) F.e_InvalidRows (fc_InvalidRows_init_1 F) (hr.mono (by decide)) (fun _ _ => Reps.nil) (passes_call (takes_of rfl rfl rfl rfl) fun _ _ _ _ z => z.elim) rfl F.g_InvalidRows (dca_pos (da_cons (de_var 0) (da_nil)))) (da_cons (de_excK (n := 1) (ix := [0]) (dd := []) (dvs := []) F.e_InvalidName (fc_InvalidName_init_1 F) (hr.mono (by decide)) (fun _ _ => Reps.nil) (passes_call (takes_of rfl rfl rfl rfl) fun _ _ _ _ z => z.elim) rfl F.g_InvalidName (dca_pos (da_cons (de_var 0) (da_nil)))) (da_nil))))))))))
    (dss_cons (ds_asg (i := 2) sc__law_errors.nd rfl (.inl rfl) (de_addB (de_var 2) (de_lst (da_cons (de_excK (n := 1) (ix := [0]) (dd := []) (dvs := []) F.e_InvalidText (fc_InvalidText_init_1 F) (hr.mono (by decide)) (fun _ _ => Reps.nil) (passes_call (takes_of rfl rfl rfl rfl) fun _ _ _ _ z => z.elim) rfl F.g_InvalidText (dca_pos (da_cons (de_var 0) (da_nil)))) (da_cons (de_excK (n := 1) (ix := [0]) (dd := []) (dvs := []) F.e_InvalidSign (fc_InvalidSign_init_1 F) (hr.mono (by decide)) (fun _ _ => Reps.nil) (passes_call (takes_of rfl rfl rfl rfl) fun _ _ _ _ z => z.elim) rfl F.g_InvalidSign (dca_pos (da_cons (de_var 0) (da_nil)))) (da_cons (de_excK (n := 1) (ix := [0]) (dd := []) (dvs := []) F.e_InvalidLine (fc_InvalidLine_init_1 F) (hr.mono (by decide)) (fun _ _ => Reps.nil) (passes_call (takes_of rfl rfl rfl rfl) fun _ _ _ _ z => z.elim) rfl F.g_InvalidLine (dca_pos (da_cons (de_var 0) (da_nil)))) (da_cons (de_excK (n := 1) (ix := [0]) (dd := []) (dvs := []) F.e_InvalidCommand (fc_InvalidCommand_init_1 F) (hr.mono (by decide)) (fun _ _ => Reps.nil) (passes_call (takes_of rfl rfl rfl rfl) fun _ _ _ _ z => z.elim) rfl F.g_InvalidCommand (dca_pos (da_cons (de_var 0) (da_nil)))) (da_cons (de_excK (n := 1) (ix := [0]) (dd := []) (dvs := []) F.e_InvalidPage (fc_InvalidPage_init_1 F) (hr.mono (by decide)) (fun _ _ => Reps.nil) (passes_call (takes_of rfl rfl rfl rfl) fun _ _ _ _ z => z.elim) rfl F.g_InvalidPage (dca_pos (da_cons (de_var 0) (da_nil)))) (da_cons (de_excK (n := 1) (ix := [0]) (dd := []) (dvs := []) F.e_InvalidLimit (fc_InvalidLimit_init_1 F) (hr.mono (by decide)) (fun _ _ => Reps.nil) (passes_call (takes_of rfl rfl rfl rfl) fun _ _ _ _ z => z.elim) rfl F.g_InvalidLimit (dca_pos (da_cons (de_var 0) (da_nil)))) (da_nil))))))))))
    (dss_cons (ds_asg (i := 2) sc__law_errors.nd rfl (.inl rfl) (de_addB (de_var 2) (de_lst (da_cons (de_excK (n := 1) (ix := [0]) (dd := []) (dvs := []) F.e_DuplicateName (fc_DuplicateName_init_1 F) (hr.mono (by decide)) (fun _ _ => Reps.nil) (passes_call (takes_of rfl rfl rfl rfl) fun _ _ _ _ z => z.elim) rfl F.g_DuplicateName (dca_pos (da_cons (de_var 0) (da_nil)))) (da_cons (de_excK (n := 2) (ix := [0, 1]) (dd := []) (dvs := []) F.e_InUse (fc_InUse_init_2 F) (hr.mono (by decide)) (fun _ _ => Reps.nil) (passes_call (takes_of rfl rfl rfl rfl) fun _ _ _ _ z => z.elim) rfl F.g_InUse (dca_pos (da_cons (de_var 0) (da_cons (de_var 1) (da_nil))))) (da_cons (de_excK (n := 1) (ix := [0]) (dd := []) (dvs := []) F.e_Full (fc_Full_init_1 F) (hr.mono (by decide)) (fun _ _ => Reps.nil) (passes_call (takes_of rfl rfl rfl rfl) fun _ _ _ _ z => z.elim) rfl F.g_Full (dca_pos (da_cons (de_var 0) (da_nil)))) (da_cons (de_excK (n := 2) (ix := [0, 1]) (dd := [.str "arrows"]) (dvs := [.str "arrows"]) F.e_TooMany (fc_TooMany_init_2 F) (hr.mono (by decide)) (fun _ _ => Reps.cons rfl (Reps.nil)) (passes_call (takes_of rfl rfl rfl rfl) fun _ _ _ _ z => z.elim) rfl F.g_TooMany (dca_pos (da_cons (de_var 0) (da_cons (de_var 1) (da_nil))))) (da_cons (de_excK (n := 1) (ix := [0]) (dd := []) (dvs := []) F.e_WrongKind (fc_WrongKind_init_1 F) (hr.mono (by decide)) (fun _ _ => Reps.nil) (passes_call (takes_of rfl rfl rfl rfl) fun _ _ _ _ z => z.elim) rfl F.g_WrongKind (dca_pos (da_cons (de_var 0) (da_nil)))) (da_cons (de_excK (n := 1) (ix := [0]) (dd := []) (dvs := []) F.e_WrongSort (fc_WrongSort_init_1 F) (hr.mono (by decide)) (fun _ _ => Reps.nil) (passes_call (takes_of rfl rfl rfl rfl) fun _ _ _ _ z => z.elim) rfl F.g_WrongSort (dca_pos (da_cons (de_var 0) (da_nil)))) (da_cons (de_excK (n := 0) (ix := []) (dd := []) (dvs := []) F.e_Mismatch (fc_Mismatch_init_0 F) (hr.mono (by decide)) (fun _ _ => Reps.nil) (passes_call (takes_of rfl rfl rfl rfl) fun _ _ _ _ z => z.elim) rfl F.g_Mismatch dca_nil) (da_cons (de_excK (n := 0) (ix := []) (dd := []) (dvs := []) F.e_NotPlane (fc_NotPlane_init_0 F) (hr.mono (by decide)) (fun _ _ => Reps.nil) (passes_call (takes_of rfl rfl rfl rfl) fun _ _ _ _ z => z.elim) rfl F.g_NotPlane dca_nil) (da_nil))))))))))))
    (dss_one (ds_ret (DE.dt (de_addB (de_var 2) (de_lst (da_cons (de_excK (n := 0) (ix := []) (dd := []) (dvs := []) F.e_NotEven (fc_NotEven_init_0 F) (hr.mono (by decide)) (fun _ _ => Reps.nil) (passes_call (takes_of rfl rfl rfl rfl) fun _ _ _ _ z => z.elim) rfl F.g_NotEven dca_nil) (da_cons (de_excK (n := 0) (ix := []) (dd := []) (dvs := []) F.e_ZeroDivisor (fc_ZeroDivisor_init_0 F) (hr.mono (by decide)) (fun _ _ => Reps.nil) (passes_call (takes_of rfl rfl rfl rfl) fun _ _ _ _ z => z.elim) rfl F.g_ZeroDivisor dca_nil) (da_cons (de_excK (n := 0) (ix := []) (dd := []) (dvs := []) F.e_Unfit (fc_Unfit_init_0 F) (hr.mono (by decide)) (fun _ _ => Reps.nil) (passes_call (takes_of rfl rfl rfl rfl) fun _ _ _ _ z => z.elim) rfl F.g_Unfit dca_nil) (da_cons (de_excK (n := 1) (ix := [0]) (dd := []) (dvs := []) F.e_UnknownName (fc_UnknownName_init_1 F) (hr.mono (by decide)) (fun _ _ => Reps.nil) (passes_call (takes_of rfl rfl rfl rfl) fun _ _ _ _ z => z.elim) rfl F.g_UnknownName (dca_pos (da_cons (de_var 0) (da_nil)))) (da_cons (de_excK (n := 0) (ix := []) (dd := []) (dvs := []) F.e_NothingLeft (fc_NothingLeft_init_0 F) (hr.mono (by decide)) (fun _ _ => Reps.nil) (passes_call (takes_of rfl rfl rfl rfl) fun _ _ _ _ z => z.elim) rfl F.g_NothingLeft dca_nil) (da_nil))))))))))))), fun ds k h => ?_⟩
  obtain ⟨x, y, rfl, h⟩ := h
  suffices z : Stp _ from z.run
  show Stp (gSeq _ _ _ [SD.sh x, SD.sh y, SD.unset])
  exists nx; (with_reducible first | apply s_asg | apply s_asgL); exists ev; exists pt
  exists nx; (with_reducible first | apply s_asg | apply s_asgL); exists ev; exists pt
  exists nx; (with_reducible first | apply s_asg | apply s_asgL); exists ev; exists pt
  exists nx; (with_reducible apply s_ret); exists ev
  exact ⟨h⟩
theorem sr_lerrs {x y : D} : SR s_lerrs [x, y] (.lst (errT.map (excR x y))) := .mk fun k e q => ⟨x, y, rfl, q⟩
local macro_rules
  | `(tactic| exists $i:ident) => match i.getId.eraseMacroScopes with
    | `es => `(tactic| ((with_reducible (first | apply sr_lcodes | apply sr_lerrs))))
    | _ => Lean.Macro.throwUnsupported
theorem fc__law_errors_2 (F : Facts K mg) : FnC P w K mg base 3 (He.ga K "_law_errors") [] (lift K s_lerrs) := FnOk.c0 (ok__law_errors F) (F.d__law_errors.bindsN fun _ _ _ _ _ _ us hl => match us, hl with | [_, _], _ => rfl)
theorem ok__law_sorts (F : Facts K mg) : FnOk P w K mg base (L2.CX P w) 2 (He.ga K "_law_sorts") (fdOf K (He.ga K "_law_sorts")) ["_law_e"] (lift K s_lsorts) := by
  refine okD F.d__law_sorts sc__law_sorts (fun ds k e h => by obtain ⟨c, ns, fs, rfl, _⟩ := h; rfl) fun cdv A outer s0 H E b eo hr Z => ⟨_, dss_cons (ds_asg (i := 1) sc__law_sorts.nd rfl (.inl rfl) (de_lst (da_cons (de_isiX (v := .ref (He.ga K "InvalidNumber")) (fun c hc => ⟨F.exci c hc, F.isx_InvalidNumber c hc⟩) (fun _ h => h) (de_var 0) (pe_glob rfl F.g_InvalidNumber rfl) rfl F.n_isinstance) (da_cons (de_isiX (v := .ref (He.ga K "InvalidPlaces")) (fun c hc => ⟨F.exci c hc, F.isx_InvalidPlaces c hc⟩) (fun _ h => h) (de_var 0) (pe_glob rfl F.g_InvalidPlaces rfl) rfl F.n_isinstance) (da_cons (de_isiX (v := .ref (He.ga K "InvalidTable")) (fun c hc => ⟨F.exci c hc, F.isx_InvalidTable c hc⟩) (fun _ h => h) (de_var 0) (pe_glob rfl F.g_InvalidTable rfl) rfl F.n_isinstance) (da_cons (de_isiX (v := .ref (He.ga K "InvalidKind")) (fun c hc => ⟨F.exci c hc, F.isx_InvalidKind c hc⟩) (fun _ h => h) (de_var 0) (pe_glob rfl F.g_InvalidKind rfl) rfl F.n_isinstance) (da_nil)))))))
    (dss_cons (ds_asg (i := 1) sc__law_sorts.nd rfl (.inl rfl) (de_addB (de_var 1) (de_lst (da_cons (de_isiX (v := .ref (He.ga K "InvalidTurns")) (fun c hc => ⟨F.exci c hc, F.isx_InvalidTurns c hc⟩) (fun _ h => h) (de_var 0) (pe_glob rfl F.g_InvalidTurns rfl) rfl F.n_isinstance) (da_cons (de_isiX (v := .ref (He.ga K "InvalidRows")) (fun c hc => ⟨F.exci c hc, F.isx_InvalidRows c hc⟩) (fun _ h => h) (de_var 0) (pe_glob rfl F.g_InvalidRows rfl) rfl F.n_isinstance) (da_cons (de_isiX (v := .ref (He.ga K "InvalidName")) (fun c hc => ⟨F.exci c hc, F.isx_InvalidName c hc⟩) (fun _ h => h) (de_var 0) (pe_glob rfl F.g_InvalidName rfl) rfl F.n_isinstance) (da_cons (de_isiX (v := .ref (He.ga K "InvalidText")) (fun c hc => ⟨F.exci c hc, F.isx_InvalidText c hc⟩) (fun _ h => h) (de_var 0) (pe_glob rfl F.g_InvalidText rfl) rfl F.n_isinstance) (da_nil))))))))
    (dss_cons (ds_asg (i := 1) sc__law_sorts.nd rfl (.inl rfl) (de_addB (de_var 1) (de_lst (da_cons (de_isiX (v := .ref (He.ga K "InvalidSign")) (fun c hc => ⟨F.exci c hc, F.isx_InvalidSign c hc⟩) (fun _ h => h) (de_var 0) (pe_glob rfl F.g_InvalidSign rfl) rfl F.n_isinstance) (da_cons (de_isiX (v := .ref (He.ga K "InvalidLine")) (fun c hc => ⟨F.exci c hc, F.isx_InvalidLine c hc⟩) (fun _ h => h) (de_var 0) (pe_glob rfl F.g_InvalidLine rfl) rfl F.n_isinstance) (da_cons (de_isiX (v := .ref (He.ga K "InvalidCommand")) (fun c hc => ⟨F.exci c hc, F.isx_InvalidCommand c hc⟩) (fun _ h => h) (de_var 0) (pe_glob rfl F.g_InvalidCommand rfl) rfl F.n_isinstance) (da_cons (de_isiX (v := .ref (He.ga K "InvalidPage")) (fun c hc => ⟨F.exci c hc, F.isx_InvalidPage c hc⟩) (fun _ h => h) (de_var 0) (pe_glob rfl F.g_InvalidPage rfl) rfl F.n_isinstance) (da_nil))))))))
    (dss_cons (ds_asg (i := 1) sc__law_sorts.nd rfl (.inl rfl) (de_addB (de_var 1) (de_lst (da_cons (de_isiX (v := .ref (He.ga K "InvalidLimit")) (fun c hc => ⟨F.exci c hc, F.isx_InvalidLimit c hc⟩) (fun _ h => h) (de_var 0) (pe_glob rfl F.g_InvalidLimit rfl) rfl F.n_isinstance) (da_cons (de_isiX (v := .ref (He.ga K "DuplicateName")) (fun c hc => ⟨F.exci c hc, F.isx_DuplicateName c hc⟩) (fun _ h => h) (de_var 0) (pe_glob rfl F.g_DuplicateName rfl) rfl F.n_isinstance) (da_cons (de_isiX (v := .ref (He.ga K "InUse")) (fun c hc => ⟨F.exci c hc, F.isx_InUse c hc⟩) (fun _ h => h) (de_var 0) (pe_glob rfl F.g_InUse rfl) rfl F.n_isinstance) (da_cons (de_isiX (v := .ref (He.ga K "Full")) (fun c hc => ⟨F.exci c hc, F.isx_Full c hc⟩) (fun _ h => h) (de_var 0) (pe_glob rfl F.g_Full rfl) rfl F.n_isinstance) (da_nil))))))))
    (dss_cons (ds_asg (i := 1) sc__law_sorts.nd rfl (.inl rfl) (de_addB (de_var 1) (de_lst (da_cons (de_isiX (v := .ref (He.ga K "TooMany")) (fun c hc => ⟨F.exci c hc, F.isx_TooMany c hc⟩) (fun _ h => h) (de_var 0) (pe_glob rfl F.g_TooMany rfl) rfl F.n_isinstance) (da_cons (de_isiX (v := .ref (He.ga K "WrongKind")) (fun c hc => ⟨F.exci c hc, F.isx_WrongKind c hc⟩) (fun _ h => h) (de_var 0) (pe_glob rfl F.g_WrongKind rfl) rfl F.n_isinstance) (da_cons (de_isiX (v := .ref (He.ga K "WrongSort")) (fun c hc => ⟨F.exci c hc, F.isx_WrongSort c hc⟩) (fun _ h => h) (de_var 0) (pe_glob rfl F.g_WrongSort rfl) rfl F.n_isinstance) (da_cons (de_isiX (v := .ref (He.ga K "Mismatch")) (fun c hc => ⟨F.exci c hc, F.isx_Mismatch c hc⟩) (fun _ h => h) (de_var 0) (pe_glob rfl F.g_Mismatch rfl) rfl F.n_isinstance) (da_nil))))))))
    (dss_cons (ds_asg (i := 1) sc__law_sorts.nd rfl (.inl rfl) (de_addB (de_var 1) (de_lst (da_cons (de_isiX (v := .ref (He.ga K "NotPlane")) (fun c hc => ⟨F.exci c hc, F.isx_NotPlane c hc⟩) (fun _ h => h) (de_var 0) (pe_glob rfl F.g_NotPlane rfl) rfl F.n_isinstance) (da_cons (de_isiX (v := .ref (He.ga K "NotEven")) (fun c hc => ⟨F.exci c hc, F.isx_NotEven c hc⟩) (fun _ h => h) (de_var 0) (pe_glob rfl F.g_NotEven rfl) rfl F.n_isinstance) (da_cons (de_isiX (v := .ref (He.ga K "ZeroDivisor")) (fun c hc => ⟨F.exci c hc, F.isx_ZeroDivisor c hc⟩) (fun _ h => h) (de_var 0) (pe_glob rfl F.g_ZeroDivisor rfl) rfl F.n_isinstance) (da_cons (de_isiX (v := .ref (He.ga K "Unfit")) (fun c hc => ⟨F.exci c hc, F.isx_Unfit c hc⟩) (fun _ h => h) (de_var 0) (pe_glob rfl F.g_Unfit rfl) rfl F.n_isinstance) (da_nil))))))))
    (dss_one (ds_ret (DE.dt (de_addB (de_var 1) (de_lst (da_cons (de_isiX (v := .ref (He.ga K "UnknownName")) (fun c hc => ⟨F.exci c hc, F.isx_UnknownName c hc⟩) (fun _ h => h) (de_var 0) (pe_glob rfl F.g_UnknownName rfl) rfl F.n_isinstance) (da_cons (de_isiX (v := .ref (He.ga K "NothingLeft")) (fun c hc => ⟨F.exci c hc, F.isx_NothingLeft c hc⟩) (fun _ h => h) (de_var 0) (pe_glob rfl F.g_NothingLeft rfl) rfl F.n_isinstance) (da_nil))))))))))))), fun ds k h => ?_⟩
  obtain ⟨c, ns, fs, rfl, hc, h⟩ := h
  suffices z : Stp _ from z.run
  show Stp (gSeq _ _ _ [SD.sh (.exc c ns fs), SD.unset])
  exists nx; (with_reducible first | apply s_asg | apply s_asgL); exists ev; exists pt
  exists nx; (with_reducible first | apply s_asg | apply s_asgL); exists ev; exists pt
  exists nx; (with_reducible first | apply s_asg | apply s_asgL); exists ev; exists pt
  exists nx; (with_reducible first | apply s_asg | apply s_asgL); exists ev; exists pt
  exists nx; (with_reducible first | apply s_asg | apply s_asgL); exists ev; exists pt
  exists nx; (with_reducible first | apply s_asg | apply s_asgL); exists ev; exists pt
  exists nx; (with_reducible apply s_ret); exists ev
  exact ⟨h⟩
theorem sr_lsorts {x y : D} {r : Str × List Str} (h : r ∈ errT) : SR s_lsorts [excR x y r] (.lst (errT.map fun q => D.bl (inE [q.1] r.1))) := .mk fun k e q => ⟨_, _, _, rfl, (exc_of h).1, q⟩
local macro_rules
  | `(tactic| exists $i:ident) => match i.getId.eraseMacroScopes with
    | `es => `(tactic| ((with_reducible (first | apply sr_lcodes | apply sr_lerrs | apply sr_lsorts))))
    | _ => Lean.Macro.throwUnsupported
theorem fc__law_sorts_1 (F : Facts K mg) : FnC P w K mg base 2 (He.ga K "_law_sorts") [] (lift K s_lsorts) := FnOk.c0 (ok__law_sorts F) (F.d__law_sorts.bindsN fun _ _ _ _ _ _ us hl => match us, hl with | [_], _ => rfl)
theorem ok__law_field (F : Facts K mg) : FnOk P w K mg base (L2.CX P w) 2 (He.ga K "_law_field") (fdOf K (He.ga K "_law_field")) ["_law_e"] (lift K s_lfield) := by
  refine okD F.d__law_field sc__law_field (fun ds k e h => by obtain ⟨x, y, r, rfl, _⟩ := h; rfl) fun cdv A outer s0 H E b eo hr Z => ⟨_, dss_cons (ds_if (db_inA (k := 0) (hr.mono (by decide)) (DE.dt (de_xf F.xfok (by decide) (de_var 0))) (DE.dt (de_tup (da_cons (de_str) (da_cons (de_str) (da_cons (de_str) (da_cons (de_str) (da_nil)))))))) (dss_one (ds_ret (DE.dt (de_tup (da_cons (de_xf F.xfok (by decide) (de_var 0)) (da_nil)))))) (dss_nil))
    (dss_cons (ds_if (db_inA (k := 0) (hr.mono (by decide)) (DE.dt (de_xf F.xfok (by decide) (de_var 0))) (DE.dt (de_tup (da_cons (de_str) (da_cons (de_str) (da_cons (de_str) (da_cons (de_str) (da_cons (de_str) (da_cons (de_str) (da_nil)))))))))) (dss_one (ds_ret (DE.dt (de_tup (da_cons (de_xf F.xfok (by decide) (de_var 0)) (da_nil)))))) (dss_nil))
    (dss_cons (ds_if (db_inA (k := 0) (hr.mono (by decide)) (DE.dt (de_xf F.xfok (by decide) (de_var 0))) (DE.dt (de_tup (da_cons (de_str) (da_cons (de_str) (da_cons (de_str) (da_cons (de_str) (da_nil)))))))) (dss_one (ds_ret (DE.dt (de_tup (da_cons (de_xf F.xfok (by decide) (de_var 0)) (da_nil)))))) (dss_nil))
    (dss_cons (ds_if (db_inA (k := 0) (hr.mono (by decide)) (DE.dt (de_xf F.xfok (by decide) (de_var 0))) (DE.dt (de_tup (da_cons (de_str) (da_cons (de_str) (da_nil)))))) (dss_one (ds_ret (DE.dt (de_tup (da_cons (de_xf F.xfok (by decide) (de_var 0)) (da_nil)))))) (dss_nil))
    (dss_cons (ds_if (db_eqA hr (DE.dt (de_xf F.xfok (by decide) (de_var 0))) (DE.dt (de_str))) (dss_one (ds_ret (DE.dt (de_tup (da_cons (de_xf F.xfok (by decide) (de_var 0)) (da_cons (de_xf F.xfok (by decide) (de_var 0)) (da_nil))))))) (dss_nil))
    (dss_cons (ds_if (db_eqA hr (DE.dt (de_xf F.xfok (by decide) (de_var 0))) (DE.dt (de_str))) (dss_one (ds_ret (DE.dt (de_tup (da_cons (de_xf F.xfok (by decide) (de_var 0)) (da_cons (de_xf F.xfok (by decide) (de_var 0)) (da_nil))))))) (dss_nil))
    (dss_cons (ds_if (db_eqA hr (DE.dt (de_xf F.xfok (by decide) (de_var 0))) (DE.dt (de_str))) (dss_one (ds_ret (DE.dt (de_tup (da_cons (de_xf F.xfok (by decide) (de_var 0)) (da_nil)))))) (dss_nil))
    (dss_one (ds_ret (DE.dt (de_if (db_eqA hr (DE.dt (de_xf F.xfok (by decide) (de_var 0))) (DE.dt (de_str))) (de_tup (da_cons (de_xf F.xfok (by decide) (de_var 0)) (da_nil))) (de_tup (da_nil)))))))))))), fun ds k h => ?_⟩
  obtain ⟨x, y, r, rfl, hr, h⟩ := h
  suffices z : Stp _ from z.run
  show Stp (gSeq _ _ _ [SD.sh (excR x y r)])
  have hr0 := hr
  simp only [errT, List.mem_cons, List.not_mem_nil, or_false] at hr0
  rcases hr0 with rfl | rfl | rfl | rfl | rfl | rfl | rfl | rfl | rfl | rfl | rfl | rfl | rfl | rfl | rfl | rfl | rfl | rfl | rfl | rfl | rfl | rfl | rfl | rfl | rfl | rfl
  · exists nx; (with_reducible first | apply s_ifFN | apply s_ifLFN); exists ev, (by first | with_reducible exact ev_code (ev_var rfl) hr | with_reducible exact ev_fl1 (ev_var rfl) hr | with_reducible exact ev_fl2 (ev_var rfl) hr | with_reducible exact ev_fl3 (ev_var rfl) hr)
    · rfl
    exists nx; (with_reducible first | apply s_ifT | apply s_ifLT); exists ev, (by first | with_reducible exact ev_code (ev_var rfl) hr | with_reducible exact ev_fl1 (ev_var rfl) hr | with_reducible exact ev_fl2 (ev_var rfl) hr | with_reducible exact ev_fl3 (ev_var rfl) hr)
    · rfl
    exists nx; (with_reducible apply s_ret); exists ev, (by first | with_reducible exact ev_code (ev_var rfl) hr | with_reducible exact ev_fl1 (ev_var rfl) hr | with_reducible exact ev_fl2 (ev_var rfl) hr | with_reducible exact ev_fl3 (ev_var rfl) hr)
    exact ⟨h⟩
  · exists nx; (with_reducible first | apply s_ifT | apply s_ifLT); exists ev, (by first | with_reducible exact ev_code (ev_var rfl) hr | with_reducible exact ev_fl1 (ev_var rfl) hr | with_reducible exact ev_fl2 (ev_var rfl) hr | with_reducible exact ev_fl3 (ev_var rfl) hr)
    · rfl
    exists nx; (with_reducible apply s_ret); exists ev, (by first | with_reducible exact ev_code (ev_var rfl) hr | with_reducible exact ev_fl1 (ev_var rfl) hr | with_reducible exact ev_fl2 (ev_var rfl) hr | with_reducible exact ev_fl3 (ev_var rfl) hr)
    exact ⟨h⟩
  · exists nx; (with_reducible first | apply s_ifFN | apply s_ifLFN); exists ev, (by first | with_reducible exact ev_code (ev_var rfl) hr | with_reducible exact ev_fl1 (ev_var rfl) hr | with_reducible exact ev_fl2 (ev_var rfl) hr | with_reducible exact ev_fl3 (ev_var rfl) hr)
    · rfl
    exists nx; (with_reducible first | apply s_ifT | apply s_ifLT); exists ev, (by first | with_reducible exact ev_code (ev_var rfl) hr | with_reducible exact ev_fl1 (ev_var rfl) hr | with_reducible exact ev_fl2 (ev_var rfl) hr | with_reducible exact ev_fl3 (ev_var rfl) hr)
    · rfl
    exists nx; (with_reducible apply s_ret); exists ev, (by first | with_reducible exact ev_code (ev_var rfl) hr | with_reducible exact ev_fl1 (ev_var rfl) hr | with_reducible exact ev_fl2 (ev_var rfl) hr | with_reducible exact ev_fl3 (ev_var rfl) hr)
    exact ⟨h⟩
  · exists nx; (with_reducible first | apply s_ifFN | apply s_ifLFN); exists ev, (by first | with_reducible exact ev_code (ev_var rfl) hr | with_reducible exact ev_fl1 (ev_var rfl) hr | with_reducible exact ev_fl2 (ev_var rfl) hr | with_reducible exact ev_fl3 (ev_var rfl) hr)
    · rfl
    exists nx; (with_reducible first | apply s_ifT | apply s_ifLT); exists ev, (by first | with_reducible exact ev_code (ev_var rfl) hr | with_reducible exact ev_fl1 (ev_var rfl) hr | with_reducible exact ev_fl2 (ev_var rfl) hr | with_reducible exact ev_fl3 (ev_var rfl) hr)
    · rfl
    exists nx; (with_reducible apply s_ret); exists ev, (by first | with_reducible exact ev_code (ev_var rfl) hr | with_reducible exact ev_fl1 (ev_var rfl) hr | with_reducible exact ev_fl2 (ev_var rfl) hr | with_reducible exact ev_fl3 (ev_var rfl) hr)
    exact ⟨h⟩
  · exists nx; (with_reducible first | apply s_ifT | apply s_ifLT); exists ev, (by first | with_reducible exact ev_code (ev_var rfl) hr | with_reducible exact ev_fl1 (ev_var rfl) hr | with_reducible exact ev_fl2 (ev_var rfl) hr | with_reducible exact ev_fl3 (ev_var rfl) hr)
    · rfl
    exists nx; (with_reducible apply s_ret); exists ev, (by first | with_reducible exact ev_code (ev_var rfl) hr | with_reducible exact ev_fl1 (ev_var rfl) hr | with_reducible exact ev_fl2 (ev_var rfl) hr | with_reducible exact ev_fl3 (ev_var rfl) hr)
    exact ⟨h⟩
  · exists nx; (with_reducible first | apply s_ifT | apply s_ifLT); exists ev, (by first | with_reducible exact ev_code (ev_var rfl) hr | with_reducible exact ev_fl1 (ev_var rfl) hr | with_reducible exact ev_fl2 (ev_var rfl) hr | with_reducible exact ev_fl3 (ev_var rfl) hr)
    · rfl
    exists nx; (with_reducible apply s_ret); exists ev, (by first | with_reducible exact ev_code (ev_var rfl) hr | with_reducible exact ev_fl1 (ev_var rfl) hr | with_reducible exact ev_fl2 (ev_var rfl) hr | with_reducible exact ev_fl3 (ev_var rfl) hr)
    exact ⟨h⟩
  · exists nx; (with_reducible first | apply s_ifFN | apply s_ifLFN); exists ev, (by first | with_reducible exact ev_code (ev_var rfl) hr | with_reducible exact ev_fl1 (ev_var rfl) hr | with_reducible exact ev_fl2 (ev_var rfl) hr | with_reducible exact ev_fl3 (ev_var rfl) hr)
    · rfl
    exists nx; (with_reducible first | apply s_ifFN | apply s_ifLFN); exists ev, (by first | with_reducible exact ev_code (ev_var rfl) hr | with_reducible exact ev_fl1 (ev_var rfl) hr | with_reducible exact ev_fl2 (ev_var rfl) hr | with_reducible exact ev_fl3 (ev_var rfl) hr)
    · rfl
    exists nx; (with_reducible first | apply s_ifT | apply s_ifLT); exists ev, (by first | with_reducible exact ev_code (ev_var rfl) hr | with_reducible exact ev_fl1 (ev_var rfl) hr | with_reducible exact ev_fl2 (ev_var rfl) hr | with_reducible exact ev_fl3 (ev_var rfl) hr)
    · rfl
    exists nx; (with_reducible apply s_ret); exists ev, (by first | with_reducible exact ev_code (ev_var rfl) hr | with_reducible exact ev_fl1 (ev_var rfl) hr | with_reducible exact ev_fl2 (ev_var rfl) hr | with_reducible exact ev_fl3 (ev_var rfl) hr)
    exact ⟨h⟩
  · exists nx; (with_reducible first | apply s_ifFN | apply s_ifLFN); exists ev, (by first | with_reducible exact ev_code (ev_var rfl) hr | with_reducible exact ev_fl1 (ev_var rfl) hr | with_reducible exact ev_fl2 (ev_var rfl) hr | with_reducible exact ev_fl3 (ev_var rfl) hr)
    · rfl
    exists nx; (with_reducible first | apply s_ifT | apply s_ifLT); exists ev, (by first | with_reducible exact ev_code (ev_var rfl) hr | with_reducible exact ev_fl1 (ev_var rfl) hr | with_reducible exact ev_fl2 (ev_var rfl) hr | with_reducible exact ev_fl3 (ev_var rfl) hr)
    · rfl
    exists nx; (with_reducible apply s_ret); exists ev, (by first | with_reducible exact ev_code (ev_var rfl) hr | with_reducible exact ev_fl1 (ev_var rfl) hr | with_reducible exact ev_fl2 (ev_var rfl) hr | with_reducible exact ev_fl3 (ev_var rfl) hr)
    exact ⟨h⟩
  · exists nx; (with_reducible first | apply s_ifFN | apply s_ifLFN); exists ev, (by first | with_reducible exact ev_code (ev_var rfl) hr | with_reducible exact ev_fl1 (ev_var rfl) hr | with_reducible exact ev_fl2 (ev_var rfl) hr | with_reducible exact ev_fl3 (ev_var rfl) hr)
    · rfl
    exists nx; (with_reducible first | apply s_ifT | apply s_ifLT); exists ev, (by first | with_reducible exact ev_code (ev_var rfl) hr | with_reducible exact ev_fl1 (ev_var rfl) hr | with_reducible exact ev_fl2 (ev_var rfl) hr | with_reducible exact ev_fl3 (ev_var rfl) hr)
    · rfl
    exists nx; (with_reducible apply s_ret); exists ev, (by first | with_reducible exact ev_code (ev_var rfl) hr | with_reducible exact ev_fl1 (ev_var rfl) hr | with_reducible exact ev_fl2 (ev_var rfl) hr | with_reducible exact ev_fl3 (ev_var rfl) hr)
    exact ⟨h⟩
  · exists nx; (with_reducible first | apply s_ifFN | apply s_ifLFN); exists ev, (by first | with_reducible exact ev_code (ev_var rfl) hr | with_reducible exact ev_fl1 (ev_var rfl) hr | with_reducible exact ev_fl2 (ev_var rfl) hr | with_reducible exact ev_fl3 (ev_var rfl) hr)
    · rfl
    exists nx; (with_reducible first | apply s_ifFN | apply s_ifLFN); exists ev, (by first | with_reducible exact ev_code (ev_var rfl) hr | with_reducible exact ev_fl1 (ev_var rfl) hr | with_reducible exact ev_fl2 (ev_var rfl) hr | with_reducible exact ev_fl3 (ev_var rfl) hr)
    · rfl
    exists nx; (with_reducible first | apply s_ifFN | apply s_ifLFN); exists ev, (by first | with_reducible exact ev_code (ev_var rfl) hr | with_reducible exact ev_fl1 (ev_var rfl) hr | with_reducible exact ev_fl2 (ev_var rfl) hr | with_reducible exact ev_fl3 (ev_var rfl) hr)
    · rfl
    exists nx; (with_reducible first | apply s_ifT | apply s_ifLT); exists ev, (by first | with_reducible exact ev_code (ev_var rfl) hr | with_reducible exact ev_fl1 (ev_var rfl) hr | with_reducible exact ev_fl2 (ev_var rfl) hr | with_reducible exact ev_fl3 (ev_var rfl) hr)
    · rfl
    exists nx; (with_reducible apply s_ret); exists ev, (by first | with_reducible exact ev_code (ev_var rfl) hr | with_reducible exact ev_fl1 (ev_var rfl) hr | with_reducible exact ev_fl2 (ev_var rfl) hr | with_reducible exact ev_fl3 (ev_var rfl) hr)
    exact ⟨h⟩
  · exists nx; (with_reducible first | apply s_ifT | apply s_ifLT); exists ev, (by first | with_reducible exact ev_code (ev_var rfl) hr | with_reducible exact ev_fl1 (ev_var rfl) hr | with_reducible exact ev_fl2 (ev_var rfl) hr | with_reducible exact ev_fl3 (ev_var rfl) hr)
    · rfl
    exists nx; (with_reducible apply s_ret); exists ev, (by first | with_reducible exact ev_code (ev_var rfl) hr | with_reducible exact ev_fl1 (ev_var rfl) hr | with_reducible exact ev_fl2 (ev_var rfl) hr | with_reducible exact ev_fl3 (ev_var rfl) hr)
    exact ⟨h⟩
  · exists nx; (with_reducible first | apply s_ifFN | apply s_ifLFN); exists ev, (by first | with_reducible exact ev_code (ev_var rfl) hr | with_reducible exact ev_fl1 (ev_var rfl) hr | with_reducible exact ev_fl2 (ev_var rfl) hr | with_reducible exact ev_fl3 (ev_var rfl) hr)
    · rfl
    exists nx; (with_reducible first | apply s_ifFN | apply s_ifLFN); exists ev, (by first | with_reducible exact ev_code (ev_var rfl) hr | with_reducible exact ev_fl1 (ev_var rfl) hr | with_reducible exact ev_fl2 (ev_var rfl) hr | with_reducible exact ev_fl3 (ev_var rfl) hr)
    · rfl
    exists nx; (with_reducible first | apply s_ifFN | apply s_ifLFN); exists ev, (by first | with_reducible exact ev_code (ev_var rfl) hr | with_reducible exact ev_fl1 (ev_var rfl) hr | with_reducible exact ev_fl2 (ev_var rfl) hr | with_reducible exact ev_fl3 (ev_var rfl) hr)
    · rfl
    exists nx; (with_reducible first | apply s_ifT | apply s_ifLT); exists ev, (by first | with_reducible exact ev_code (ev_var rfl) hr | with_reducible exact ev_fl1 (ev_var rfl) hr | with_reducible exact ev_fl2 (ev_var rfl) hr | with_reducible exact ev_fl3 (ev_var rfl) hr)
    · rfl
    exists nx; (with_reducible apply s_ret); exists ev, (by first | with_reducible exact ev_code (ev_var rfl) hr | with_reducible exact ev_fl1 (ev_var rfl) hr | with_reducible exact ev_fl2 (ev_var rfl) hr | with_reducible exact ev_fl3 (ev_var rfl) hr)
    exact ⟨h⟩
  · exists nx; (with_reducible first | apply s_ifFN | apply s_ifLFN); exists ev, (by first | with_reducible exact ev_code (ev_var rfl) hr | with_reducible exact ev_fl1 (ev_var rfl) hr | with_reducible exact ev_fl2 (ev_var rfl) hr | with_reducible exact ev_fl3 (ev_var rfl) hr)
    · rfl
    exists nx; (with_reducible first | apply s_ifT | apply s_ifLT); exists ev, (by first | with_reducible exact ev_code (ev_var rfl) hr | with_reducible exact ev_fl1 (ev_var rfl) hr | with_reducible exact ev_fl2 (ev_var rfl) hr | with_reducible exact ev_fl3 (ev_var rfl) hr)
    · rfl
    exists nx; (with_reducible apply s_ret); exists ev, (by first | with_reducible exact ev_code (ev_var rfl) hr | with_reducible exact ev_fl1 (ev_var rfl) hr | with_reducible exact ev_fl2 (ev_var rfl) hr | with_reducible exact ev_fl3 (ev_var rfl) hr)
    exact ⟨h⟩
  · exists nx; (with_reducible first | apply s_ifFN | apply s_ifLFN); exists ev, (by first | with_reducible exact ev_code (ev_var rfl) hr | with_reducible exact ev_fl1 (ev_var rfl) hr | with_reducible exact ev_fl2 (ev_var rfl) hr | with_reducible exact ev_fl3 (ev_var rfl) hr)
    · rfl
    exists nx; (with_reducible first | apply s_ifFN | apply s_ifLFN); exists ev, (by first | with_reducible exact ev_code (ev_var rfl) hr | with_reducible exact ev_fl1 (ev_var rfl) hr | with_reducible exact ev_fl2 (ev_var rfl) hr | with_reducible exact ev_fl3 (ev_var rfl) hr)
    · rfl
    exists nx; (with_reducible first | apply s_ifT | apply s_ifLT); exists ev, (by first | with_reducible exact ev_code (ev_var rfl) hr | with_reducible exact ev_fl1 (ev_var rfl) hr | with_reducible exact ev_fl2 (ev_var rfl) hr | with_reducible exact ev_fl3 (ev_var rfl) hr)
    · rfl
    exists nx; (with_reducible apply s_ret); exists ev, (by first | with_reducible exact ev_code (ev_var rfl) hr | with_reducible exact ev_fl1 (ev_var rfl) hr | with_reducible exact ev_fl2 (ev_var rfl) hr | with_reducible exact ev_fl3 (ev_var rfl) hr)
    exact ⟨h⟩
  · exists nx; (with_reducible first | apply s_ifFN | apply s_ifLFN); exists ev, (by first | with_reducible exact ev_code (ev_var rfl) hr | with_reducible exact ev_fl1 (ev_var rfl) hr | with_reducible exact ev_fl2 (ev_var rfl) hr | with_reducible exact ev_fl3 (ev_var rfl) hr)
    · rfl
    exists nx; (with_reducible first | apply s_ifFN | apply s_ifLFN); exists ev, (by first | with_reducible exact ev_code (ev_var rfl) hr | with_reducible exact ev_fl1 (ev_var rfl) hr | with_reducible exact ev_fl2 (ev_var rfl) hr | with_reducible exact ev_fl3 (ev_var rfl) hr)
    · rfl
    exists nx; (with_reducible first | apply s_ifFN | apply s_ifLFN); exists ev, (by first | with_reducible exact ev_code (ev_var rfl) hr | with_reducible exact ev_fl1 (ev_var rfl) hr | with_reducible exact ev_fl2 (ev_var rfl) hr | with_reducible exact ev_fl3 (ev_var rfl) hr)
    · rfl
    exists nx; (with_reducible first | apply s_ifFN | apply s_ifLFN); exists ev, (by first | with_reducible exact ev_code (ev_var rfl) hr | with_reducible exact ev_fl1 (ev_var rfl) hr | with_reducible exact ev_fl2 (ev_var rfl) hr | with_reducible exact ev_fl3 (ev_var rfl) hr)
    · rfl
    exists nx; (with_reducible first | apply s_ifFN | apply s_ifLFN); exists ev, (by first | with_reducible exact ev_code (ev_var rfl) hr | with_reducible exact ev_fl1 (ev_var rfl) hr | with_reducible exact ev_fl2 (ev_var rfl) hr | with_reducible exact ev_fl3 (ev_var rfl) hr)
    · rfl
    exists nx; (with_reducible first | apply s_ifT | apply s_ifLT); exists ev, (by first | with_reducible exact ev_code (ev_var rfl) hr | with_reducible exact ev_fl1 (ev_var rfl) hr | with_reducible exact ev_fl2 (ev_var rfl) hr | with_reducible exact ev_fl3 (ev_var rfl) hr)
    · rfl
    exists nx; (with_reducible apply s_ret); exists ev, (by first | with_reducible exact ev_code (ev_var rfl) hr | with_reducible exact ev_fl1 (ev_var rfl) hr | with_reducible exact ev_fl2 (ev_var rfl) hr | with_reducible exact ev_fl3 (ev_var rfl) hr)
    exact ⟨h⟩
  · exists nx; (with_reducible first | apply s_ifFN | apply s_ifLFN); exists ev, (by first | with_reducible exact ev_code (ev_var rfl) hr | with_reducible exact ev_fl1 (ev_var rfl) hr | with_reducible exact ev_fl2 (ev_var rfl) hr | with_reducible exact ev_fl3 (ev_var rfl) hr)
    · rfl
    exists nx; (with_reducible first | apply s_ifFN | apply s_ifLFN); exists ev, (by first | with_reducible exact ev_code (ev_var rfl) hr | with_reducible exact ev_fl1 (ev_var rfl) hr | with_reducible exact ev_fl2 (ev_var rfl) hr | with_reducible exact ev_fl3 (ev_var rfl) hr)
    · rfl
    exists nx; (with_reducible first | apply s_ifFN | apply s_ifLFN); exists ev, (by first | with_reducible exact ev_code (ev_var rfl) hr | with_reducible exact ev_fl1 (ev_var rfl) hr | with_reducible exact ev_fl2 (ev_var rfl) hr | with_reducible exact ev_fl3 (ev_var rfl) hr)
    · rfl
    exists nx; (with_reducible first | apply s_ifFN | apply s_ifLFN); exists ev, (by first | with_reducible exact ev_code (ev_var rfl) hr | with_reducible exact ev_fl1 (ev_var rfl) hr | with_reducible exact ev_fl2 (ev_var rfl) hr | with_reducible exact ev_fl3 (ev_var rfl) hr)
    · rfl
    exists nx; (with_reducible first | apply s_ifFN | apply s_ifLFN); exists ev, (by first | with_reducible exact ev_code (ev_var rfl) hr | with_reducible exact ev_fl1 (ev_var rfl) hr | with_reducible exact ev_fl2 (ev_var rfl) hr | with_reducible exact ev_fl3 (ev_var rfl) hr)
    · rfl
    exists nx; (with_reducible first | apply s_ifFN | apply s_ifLFN); exists ev, (by first | with_reducible exact ev_code (ev_var rfl) hr | with_reducible exact ev_fl1 (ev_var rfl) hr | with_reducible exact ev_fl2 (ev_var rfl) hr | with_reducible exact ev_fl3 (ev_var rfl) hr)
    · rfl
    exists nx; (with_reducible first | apply s_ifT | apply s_ifLT); exists ev, (by first | with_reducible exact ev_code (ev_var rfl) hr | with_reducible exact ev_fl1 (ev_var rfl) hr | with_reducible exact ev_fl2 (ev_var rfl) hr | with_reducible exact ev_fl3 (ev_var rfl) hr)
    · rfl
    exists nx; (with_reducible apply s_ret); exists ev, (by first | with_reducible exact ev_code (ev_var rfl) hr | with_reducible exact ev_fl1 (ev_var rfl) hr | with_reducible exact ev_fl2 (ev_var rfl) hr | with_reducible exact ev_fl3 (ev_var rfl) hr)
    exact ⟨h⟩
  · exists nx; (with_reducible first | apply s_ifFN | apply s_ifLFN); exists ev, (by first | with_reducible exact ev_code (ev_var rfl) hr | with_reducible exact ev_fl1 (ev_var rfl) hr | with_reducible exact ev_fl2 (ev_var rfl) hr | with_reducible exact ev_fl3 (ev_var rfl) hr)
    · rfl
    exists nx; (with_reducible first | apply s_ifFN | apply s_ifLFN); exists ev, (by first | with_reducible exact ev_code (ev_var rfl) hr | with_reducible exact ev_fl1 (ev_var rfl) hr | with_reducible exact ev_fl2 (ev_var rfl) hr | with_reducible exact ev_fl3 (ev_var rfl) hr)
    · rfl
    exists nx; (with_reducible first | apply s_ifFN | apply s_ifLFN); exists ev, (by first | with_reducible exact ev_code (ev_var rfl) hr | with_reducible exact ev_fl1 (ev_var rfl) hr | with_reducible exact ev_fl2 (ev_var rfl) hr | with_reducible exact ev_fl3 (ev_var rfl) hr)
    · rfl
    exists nx; (with_reducible first | apply s_ifFN | apply s_ifLFN); exists ev, (by first | with_reducible exact ev_code (ev_var rfl) hr | with_reducible exact ev_fl1 (ev_var rfl) hr | with_reducible exact ev_fl2 (ev_var rfl) hr | with_reducible exact ev_fl3 (ev_var rfl) hr)
    · rfl
    exists nx; (with_reducible first | apply s_ifT | apply s_ifLT); exists ev, (by first | with_reducible exact ev_code (ev_var rfl) hr | with_reducible exact ev_fl1 (ev_var rfl) hr | with_reducible exact ev_fl2 (ev_var rfl) hr | with_reducible exact ev_fl3 (ev_var rfl) hr)
    · rfl
    exists nx; (with_reducible apply s_ret); exists ev, (by first | with_reducible exact ev_code (ev_var rfl) hr | with_reducible exact ev_fl1 (ev_var rfl) hr | with_reducible exact ev_fl2 (ev_var rfl) hr | with_reducible exact ev_fl3 (ev_var rfl) hr)
    exact ⟨h⟩
  · exists nx; (with_reducible first | apply s_ifFN | apply s_ifLFN); exists ev, (by first | with_reducible exact ev_code (ev_var rfl) hr | with_reducible exact ev_fl1 (ev_var rfl) hr | with_reducible exact ev_fl2 (ev_var rfl) hr | with_reducible exact ev_fl3 (ev_var rfl) hr)
    · rfl
    exists nx; (with_reducible first | apply s_ifFN | apply s_ifLFN); exists ev, (by first | with_reducible exact ev_code (ev_var rfl) hr | with_reducible exact ev_fl1 (ev_var rfl) hr | with_reducible exact ev_fl2 (ev_var rfl) hr | with_reducible exact ev_fl3 (ev_var rfl) hr)
    · rfl
    exists nx; (with_reducible first | apply s_ifFN | apply s_ifLFN); exists ev, (by first | with_reducible exact ev_code (ev_var rfl) hr | with_reducible exact ev_fl1 (ev_var rfl) hr | with_reducible exact ev_fl2 (ev_var rfl) hr | with_reducible exact ev_fl3 (ev_var rfl) hr)
    · rfl
    exists nx; (with_reducible first | apply s_ifFN | apply s_ifLFN); exists ev, (by first | with_reducible exact ev_code (ev_var rfl) hr | with_reducible exact ev_fl1 (ev_var rfl) hr | with_reducible exact ev_fl2 (ev_var rfl) hr | with_reducible exact ev_fl3 (ev_var rfl) hr)
    · rfl
    exists nx; (with_reducible first | apply s_ifFN | apply s_ifLFN); exists ev, (by first | with_reducible exact ev_code (ev_var rfl) hr | with_reducible exact ev_fl1 (ev_var rfl) hr | with_reducible exact ev_fl2 (ev_var rfl) hr | with_reducible exact ev_fl3 (ev_var rfl) hr)
    · rfl
    exists nx; (with_reducible first | apply s_ifFN | apply s_ifLFN); exists ev, (by first | with_reducible exact ev_code (ev_var rfl) hr | with_reducible exact ev_fl1 (ev_var rfl) hr | with_reducible exact ev_fl2 (ev_var rfl) hr | with_reducible exact ev_fl3 (ev_var rfl) hr)
    · rfl
    exists nx; (with_reducible first | apply s_ifFN | apply s_ifLFN); exists ev, (by first | with_reducible exact ev_code (ev_var rfl) hr | with_reducible exact ev_fl1 (ev_var rfl) hr | with_reducible exact ev_fl2 (ev_var rfl) hr | with_reducible exact ev_fl3 (ev_var rfl) hr)
    · rfl
    exists nx; (with_reducible apply s_ret); exists ev, (by first | with_reducible apply ev_ifT | with_reducible exact ev_code (ev_var rfl) hr | with_reducible exact ev_fl1 (ev_var rfl) hr | with_reducible exact ev_fl2 (ev_var rfl) hr | with_reducible exact ev_fl3 (ev_var rfl) hr)
    exact ⟨h⟩
  · exists nx; (with_reducible first | apply s_ifFN | apply s_ifLFN); exists ev, (by first | with_reducible exact ev_code (ev_var rfl) hr | with_reducible exact ev_fl1 (ev_var rfl) hr | with_reducible exact ev_fl2 (ev_var rfl) hr | with_reducible exact ev_fl3 (ev_var rfl) hr)
    · rfl
    exists nx; (with_reducible first | apply s_ifFN | apply s_ifLFN); exists ev, (by first | with_reducible exact ev_code (ev_var rfl) hr | with_reducible exact ev_fl1 (ev_var rfl) hr | with_reducible exact ev_fl2 (ev_var rfl) hr | with_reducible exact ev_fl3 (ev_var rfl) hr)
    · rfl
    exists nx; (with_reducible first | apply s_ifT | apply s_ifLT); exists ev, (by first | with_reducible exact ev_code (ev_var rfl) hr | with_reducible exact ev_fl1 (ev_var rfl) hr | with_reducible exact ev_fl2 (ev_var rfl) hr | with_reducible exact ev_fl3 (ev_var rfl) hr)
    · rfl
    exists nx; (with_reducible apply s_ret); exists ev, (by first | with_reducible exact ev_code (ev_var rfl) hr | with_reducible exact ev_fl1 (ev_var rfl) hr | with_reducible exact ev_fl2 (ev_var rfl) hr | with_reducible exact ev_fl3 (ev_var rfl) hr)
    exact ⟨h⟩
  · exists nx; (with_reducible first | apply s_ifFN | apply s_ifLFN); exists ev, (by first | with_reducible exact ev_code (ev_var rfl) hr | with_reducible exact ev_fl1 (ev_var rfl) hr | with_reducible exact ev_fl2 (ev_var rfl) hr | with_reducible exact ev_fl3 (ev_var rfl) hr)
    · rfl
    exists nx; (with_reducible first | apply s_ifFN | apply s_ifLFN); exists ev, (by first | with_reducible exact ev_code (ev_var rfl) hr | with_reducible exact ev_fl1 (ev_var rfl) hr | with_reducible exact ev_fl2 (ev_var rfl) hr | with_reducible exact ev_fl3 (ev_var rfl) hr)
    · rfl
    exists nx; (with_reducible first | apply s_ifFN | apply s_ifLFN); exists ev, (by first | with_reducible exact ev_code (ev_var rfl) hr | with_reducible exact ev_fl1 (ev_var rfl) hr | with_reducible exact ev_fl2 (ev_var rfl) hr | with_reducible exact ev_fl3 (ev_var rfl) hr)
    · rfl
    exists nx; (with_reducible first | apply s_ifFN | apply s_ifLFN); exists ev, (by first | with_reducible exact ev_code (ev_var rfl) hr | with_reducible exact ev_fl1 (ev_var rfl) hr | with_reducible exact ev_fl2 (ev_var rfl) hr | with_reducible exact ev_fl3 (ev_var rfl) hr)
    · rfl
    exists nx; (with_reducible first | apply s_ifFN | apply s_ifLFN); exists ev, (by first | with_reducible exact ev_code (ev_var rfl) hr | with_reducible exact ev_fl1 (ev_var rfl) hr | with_reducible exact ev_fl2 (ev_var rfl) hr | with_reducible exact ev_fl3 (ev_var rfl) hr)
    · rfl
    exists nx; (with_reducible first | apply s_ifFN | apply s_ifLFN); exists ev, (by first | with_reducible exact ev_code (ev_var rfl) hr | with_reducible exact ev_fl1 (ev_var rfl) hr | with_reducible exact ev_fl2 (ev_var rfl) hr | with_reducible exact ev_fl3 (ev_var rfl) hr)
    · rfl
    exists nx; (with_reducible first | apply s_ifFN | apply s_ifLFN); exists ev, (by first | with_reducible exact ev_code (ev_var rfl) hr | with_reducible exact ev_fl1 (ev_var rfl) hr | with_reducible exact ev_fl2 (ev_var rfl) hr | with_reducible exact ev_fl3 (ev_var rfl) hr)
    · rfl
    exists nx; (with_reducible apply s_ret); exists ev, (by first | with_reducible apply ev_ifF | with_reducible exact ev_code (ev_var rfl) hr | with_reducible exact ev_fl1 (ev_var rfl) hr | with_reducible exact ev_fl2 (ev_var rfl) hr | with_reducible exact ev_fl3 (ev_var rfl) hr)
    exact ⟨h⟩
  · exists nx; (with_reducible first | apply s_ifFN | apply s_ifLFN); exists ev, (by first | with_reducible exact ev_code (ev_var rfl) hr | with_reducible exact ev_fl1 (ev_var rfl) hr | with_reducible exact ev_fl2 (ev_var rfl) hr | with_reducible exact ev_fl3 (ev_var rfl) hr)
    · rfl
    exists nx; (with_reducible first | apply s_ifFN | apply s_ifLFN); exists ev, (by first | with_reducible exact ev_code (ev_var rfl) hr | with_reducible exact ev_fl1 (ev_var rfl) hr | with_reducible exact ev_fl2 (ev_var rfl) hr | with_reducible exact ev_fl3 (ev_var rfl) hr)
    · rfl
    exists nx; (with_reducible first | apply s_ifFN | apply s_ifLFN); exists ev, (by first | with_reducible exact ev_code (ev_var rfl) hr | with_reducible exact ev_fl1 (ev_var rfl) hr | with_reducible exact ev_fl2 (ev_var rfl) hr | with_reducible exact ev_fl3 (ev_var rfl) hr)
    · rfl
    exists nx; (with_reducible first | apply s_ifFN | apply s_ifLFN); exists ev, (by first | with_reducible exact ev_code (ev_var rfl) hr | with_reducible exact ev_fl1 (ev_var rfl) hr | with_reducible exact ev_fl2 (ev_var rfl) hr | with_reducible exact ev_fl3 (ev_var rfl) hr)
    · rfl
    exists nx; (with_reducible first | apply s_ifFN | apply s_ifLFN); exists ev, (by first | with_reducible exact ev_code (ev_var rfl) hr | with_reducible exact ev_fl1 (ev_var rfl) hr | with_reducible exact ev_fl2 (ev_var rfl) hr | with_reducible exact ev_fl3 (ev_var rfl) hr)
    · rfl
    exists nx; (with_reducible first | apply s_ifFN | apply s_ifLFN); exists ev, (by first | with_reducible exact ev_code (ev_var rfl) hr | with_reducible exact ev_fl1 (ev_var rfl) hr | with_reducible exact ev_fl2 (ev_var rfl) hr | with_reducible exact ev_fl3 (ev_var rfl) hr)
    · rfl
    exists nx; (with_reducible first | apply s_ifFN | apply s_ifLFN); exists ev, (by first | with_reducible exact ev_code (ev_var rfl) hr | with_reducible exact ev_fl1 (ev_var rfl) hr | with_reducible exact ev_fl2 (ev_var rfl) hr | with_reducible exact ev_fl3 (ev_var rfl) hr)
    · rfl
    exists nx; (with_reducible apply s_ret); exists ev, (by first | with_reducible apply ev_ifF | with_reducible exact ev_code (ev_var rfl) hr | with_reducible exact ev_fl1 (ev_var rfl) hr | with_reducible exact ev_fl2 (ev_var rfl) hr | with_reducible exact ev_fl3 (ev_var rfl) hr)
    exact ⟨h⟩
  · exists nx; (with_reducible first | apply s_ifFN | apply s_ifLFN); exists ev, (by first | with_reducible exact ev_code (ev_var rfl) hr | with_reducible exact ev_fl1 (ev_var rfl) hr | with_reducible exact ev_fl2 (ev_var rfl) hr | with_reducible exact ev_fl3 (ev_var rfl) hr)
    · rfl
    exists nx; (with_reducible first | apply s_ifFN | apply s_ifLFN); exists ev, (by first | with_reducible exact ev_code (ev_var rfl) hr | with_reducible exact ev_fl1 (ev_var rfl) hr | with_reducible exact ev_fl2 (ev_var rfl) hr | with_reducible exact ev_fl3 (ev_var rfl) hr)
    · rfl
    exists nx; (with_reducible first | apply s_ifFN | apply s_ifLFN); exists ev, (by first | with_reducible exact ev_code (ev_var rfl) hr | with_reducible exact ev_fl1 (ev_var rfl) hr | with_reducible exact ev_fl2 (ev_var rfl) hr | with_reducible exact ev_fl3 (ev_var rfl) hr)
    · rfl
    exists nx; (with_reducible first | apply s_ifFN | apply s_ifLFN); exists ev, (by first | with_reducible exact ev_code (ev_var rfl) hr | with_reducible exact ev_fl1 (ev_var rfl) hr | with_reducible exact ev_fl2 (ev_var rfl) hr | with_reducible exact ev_fl3 (ev_var rfl) hr)
    · rfl
    exists nx; (with_reducible first | apply s_ifFN | apply s_ifLFN); exists ev, (by first | with_reducible exact ev_code (ev_var rfl) hr | with_reducible exact ev_fl1 (ev_var rfl) hr | with_reducible exact ev_fl2 (ev_var rfl) hr | with_reducible exact ev_fl3 (ev_var rfl) hr)
    · rfl
    exists nx; (with_reducible first | apply s_ifFN | apply s_ifLFN); exists ev, (by first | with_reducible exact ev_code (ev_var rfl) hr | with_reducible exact ev_fl1 (ev_var rfl) hr | with_reducible exact ev_fl2 (ev_var rfl) hr | with_reducible exact ev_fl3 (ev_var rfl) hr)
    · rfl
    exists nx; (with_reducible first | apply s_ifFN | apply s_ifLFN); exists ev, (by first | with_reducible exact ev_code (ev_var rfl) hr | with_reducible exact ev_fl1 (ev_var rfl) hr | with_reducible exact ev_fl2 (ev_var rfl) hr | with_reducible exact ev_fl3 (ev_var rfl) hr)
    · rfl
    exists nx; (with_reducible apply s_ret); exists ev, (by first | with_reducible apply ev_ifF | with_reducible exact ev_code (ev_var rfl) hr | with_reducible exact ev_fl1 (ev_var rfl) hr | with_reducible exact ev_fl2 (ev_var rfl) hr | with_reducible exact ev_fl3 (ev_var rfl) hr)
    exact ⟨h⟩
  · exists nx; (with_reducible first | apply s_ifFN | apply s_ifLFN); exists ev, (by first | with_reducible exact ev_code (ev_var rfl) hr | with_reducible exact ev_fl1 (ev_var rfl) hr | with_reducible exact ev_fl2 (ev_var rfl) hr | with_reducible exact ev_fl3 (ev_var rfl) hr)
    · rfl
    exists nx; (with_reducible first | apply s_ifFN | apply s_ifLFN); exists ev, (by first | with_reducible exact ev_code (ev_var rfl) hr | with_reducible exact ev_fl1 (ev_var rfl) hr | with_reducible exact ev_fl2 (ev_var rfl) hr | with_reducible exact ev_fl3 (ev_var rfl) hr)
    · rfl
    exists nx; (with_reducible first | apply s_ifFN | apply s_ifLFN); exists ev, (by first | with_reducible exact ev_code (ev_var rfl) hr | with_reducible exact ev_fl1 (ev_var rfl) hr | with_reducible exact ev_fl2 (ev_var rfl) hr | with_reducible exact ev_fl3 (ev_var rfl) hr)
    · rfl
    exists nx; (with_reducible first | apply s_ifFN | apply s_ifLFN); exists ev, (by first | with_reducible exact ev_code (ev_var rfl) hr | with_reducible exact ev_fl1 (ev_var rfl) hr | with_reducible exact ev_fl2 (ev_var rfl) hr | with_reducible exact ev_fl3 (ev_var rfl) hr)
    · rfl
    exists nx; (with_reducible first | apply s_ifFN | apply s_ifLFN); exists ev, (by first | with_reducible exact ev_code (ev_var rfl) hr | with_reducible exact ev_fl1 (ev_var rfl) hr | with_reducible exact ev_fl2 (ev_var rfl) hr | with_reducible exact ev_fl3 (ev_var rfl) hr)
    · rfl
    exists nx; (with_reducible first | apply s_ifFN | apply s_ifLFN); exists ev, (by first | with_reducible exact ev_code (ev_var rfl) hr | with_reducible exact ev_fl1 (ev_var rfl) hr | with_reducible exact ev_fl2 (ev_var rfl) hr | with_reducible exact ev_fl3 (ev_var rfl) hr)
    · rfl
    exists nx; (with_reducible first | apply s_ifFN | apply s_ifLFN); exists ev, (by first | with_reducible exact ev_code (ev_var rfl) hr | with_reducible exact ev_fl1 (ev_var rfl) hr | with_reducible exact ev_fl2 (ev_var rfl) hr | with_reducible exact ev_fl3 (ev_var rfl) hr)
    · rfl
    exists nx; (with_reducible apply s_ret); exists ev, (by first | with_reducible apply ev_ifF | with_reducible exact ev_code (ev_var rfl) hr | with_reducible exact ev_fl1 (ev_var rfl) hr | with_reducible exact ev_fl2 (ev_var rfl) hr | with_reducible exact ev_fl3 (ev_var rfl) hr)
    exact ⟨h⟩
  · exists nx; (with_reducible first | apply s_ifFN | apply s_ifLFN); exists ev, (by first | with_reducible exact ev_code (ev_var rfl) hr | with_reducible exact ev_fl1 (ev_var rfl) hr | with_reducible exact ev_fl2 (ev_var rfl) hr | with_reducible exact ev_fl3 (ev_var rfl) hr)
    · rfl
    exists nx; (with_reducible first | apply s_ifFN | apply s_ifLFN); exists ev, (by first | with_reducible exact ev_code (ev_var rfl) hr | with_reducible exact ev_fl1 (ev_var rfl) hr | with_reducible exact ev_fl2 (ev_var rfl) hr | with_reducible exact ev_fl3 (ev_var rfl) hr)
    · rfl
    exists nx; (with_reducible first | apply s_ifFN | apply s_ifLFN); exists ev, (by first | with_reducible exact ev_code (ev_var rfl) hr | with_reducible exact ev_fl1 (ev_var rfl) hr | with_reducible exact ev_fl2 (ev_var rfl) hr | with_reducible exact ev_fl3 (ev_var rfl) hr)
    · rfl
    exists nx; (with_reducible first | apply s_ifFN | apply s_ifLFN); exists ev, (by first | with_reducible exact ev_code (ev_var rfl) hr | with_reducible exact ev_fl1 (ev_var rfl) hr | with_reducible exact ev_fl2 (ev_var rfl) hr | with_reducible exact ev_fl3 (ev_var rfl) hr)
    · rfl
    exists nx; (with_reducible first | apply s_ifFN | apply s_ifLFN); exists ev, (by first | with_reducible exact ev_code (ev_var rfl) hr | with_reducible exact ev_fl1 (ev_var rfl) hr | with_reducible exact ev_fl2 (ev_var rfl) hr | with_reducible exact ev_fl3 (ev_var rfl) hr)
    · rfl
    exists nx; (with_reducible first | apply s_ifFN | apply s_ifLFN); exists ev, (by first | with_reducible exact ev_code (ev_var rfl) hr | with_reducible exact ev_fl1 (ev_var rfl) hr | with_reducible exact ev_fl2 (ev_var rfl) hr | with_reducible exact ev_fl3 (ev_var rfl) hr)
    · rfl
    exists nx; (with_reducible first | apply s_ifFN | apply s_ifLFN); exists ev, (by first | with_reducible exact ev_code (ev_var rfl) hr | with_reducible exact ev_fl1 (ev_var rfl) hr | with_reducible exact ev_fl2 (ev_var rfl) hr | with_reducible exact ev_fl3 (ev_var rfl) hr)
    · rfl
    exists nx; (with_reducible apply s_ret); exists ev, (by first | with_reducible apply ev_ifF | with_reducible exact ev_code (ev_var rfl) hr | with_reducible exact ev_fl1 (ev_var rfl) hr | with_reducible exact ev_fl2 (ev_var rfl) hr | with_reducible exact ev_fl3 (ev_var rfl) hr)
    exact ⟨h⟩
  · exists nx; (with_reducible first | apply s_ifFN | apply s_ifLFN); exists ev, (by first | with_reducible exact ev_code (ev_var rfl) hr | with_reducible exact ev_fl1 (ev_var rfl) hr | with_reducible exact ev_fl2 (ev_var rfl) hr | with_reducible exact ev_fl3 (ev_var rfl) hr)
    · rfl
    exists nx; (with_reducible first | apply s_ifFN | apply s_ifLFN); exists ev, (by first | with_reducible exact ev_code (ev_var rfl) hr | with_reducible exact ev_fl1 (ev_var rfl) hr | with_reducible exact ev_fl2 (ev_var rfl) hr | with_reducible exact ev_fl3 (ev_var rfl) hr)
    · rfl
    exists nx; (with_reducible first | apply s_ifT | apply s_ifLT); exists ev, (by first | with_reducible exact ev_code (ev_var rfl) hr | with_reducible exact ev_fl1 (ev_var rfl) hr | with_reducible exact ev_fl2 (ev_var rfl) hr | with_reducible exact ev_fl3 (ev_var rfl) hr)
    · rfl
    exists nx; (with_reducible apply s_ret); exists ev, (by first | with_reducible exact ev_code (ev_var rfl) hr | with_reducible exact ev_fl1 (ev_var rfl) hr | with_reducible exact ev_fl2 (ev_var rfl) hr | with_reducible exact ev_fl3 (ev_var rfl) hr)
    exact ⟨h⟩
  · exists nx; (with_reducible first | apply s_ifFN | apply s_ifLFN); exists ev, (by first | with_reducible exact ev_code (ev_var rfl) hr | with_reducible exact ev_fl1 (ev_var rfl) hr | with_reducible exact ev_fl2 (ev_var rfl) hr | with_reducible exact ev_fl3 (ev_var rfl) hr)
    · rfl
    exists nx; (with_reducible first | apply s_ifFN | apply s_ifLFN); exists ev, (by first | with_reducible exact ev_code (ev_var rfl) hr | with_reducible exact ev_fl1 (ev_var rfl) hr | with_reducible exact ev_fl2 (ev_var rfl) hr | with_reducible exact ev_fl3 (ev_var rfl) hr)
    · rfl
    exists nx; (with_reducible first | apply s_ifFN | apply s_ifLFN); exists ev, (by first | with_reducible exact ev_code (ev_var rfl) hr | with_reducible exact ev_fl1 (ev_var rfl) hr | with_reducible exact ev_fl2 (ev_var rfl) hr | with_reducible exact ev_fl3 (ev_var rfl) hr)
    · rfl
    exists nx; (with_reducible first | apply s_ifFN | apply s_ifLFN); exists ev, (by first | with_reducible exact ev_code (ev_var rfl) hr | with_reducible exact ev_fl1 (ev_var rfl) hr | with_reducible exact ev_fl2 (ev_var rfl) hr | with_reducible exact ev_fl3 (ev_var rfl) hr)
    · rfl
    exists nx; (with_reducible first | apply s_ifFN | apply s_ifLFN); exists ev, (by first | with_reducible exact ev_code (ev_var rfl) hr | with_reducible exact ev_fl1 (ev_var rfl) hr | with_reducible exact ev_fl2 (ev_var rfl) hr | with_reducible exact ev_fl3 (ev_var rfl) hr)
    · rfl
    exists nx; (with_reducible first | apply s_ifFN | apply s_ifLFN); exists ev, (by first | with_reducible exact ev_code (ev_var rfl) hr | with_reducible exact ev_fl1 (ev_var rfl) hr | with_reducible exact ev_fl2 (ev_var rfl) hr | with_reducible exact ev_fl3 (ev_var rfl) hr)
    · rfl
    exists nx; (with_reducible first | apply s_ifFN | apply s_ifLFN); exists ev, (by first | with_reducible exact ev_code (ev_var rfl) hr | with_reducible exact ev_fl1 (ev_var rfl) hr | with_reducible exact ev_fl2 (ev_var rfl) hr | with_reducible exact ev_fl3 (ev_var rfl) hr)
    · rfl
    exists nx; (with_reducible apply s_ret); exists ev, (by first | with_reducible apply ev_ifF | with_reducible exact ev_code (ev_var rfl) hr | with_reducible exact ev_fl1 (ev_var rfl) hr | with_reducible exact ev_fl2 (ev_var rfl) hr | with_reducible exact ev_fl3 (ev_var rfl) hr)
    exact ⟨h⟩
theorem sr_lfield {x y : D} {r : Str × List Str} (h : r ∈ errT) : SR s_lfield [excR x y r] (.tup (vals x y r.2)) := .mk fun k e q => ⟨x, y, r, rfl, h, q⟩
local macro_rules
  | `(tactic| exists $i:ident) => match i.getId.eraseMacroScopes with
    | `es => `(tactic| ((with_reducible (first | apply sr_lcodes | apply sr_lerrs | apply sr_lsorts | apply sr_lfield))))
    | _ => Lean.Macro.throwUnsupported
theorem fc__law_field_1 (F : Facts K mg) : FnC P w K mg base 2 (He.ga K "_law_field") [] (lift K s_lfield) := FnOk.c0 (ok__law_field F) (F.d__law_field.bindsN fun _ _ _ _ _ _ us hl => match us, hl with | [_], _ => rfl)
theorem ok__law_same : ∀ (n : Nat) (F : Facts K mg), FnOk P w K mg base (L2.CX P w) (n + 2) (He.ga K "_law_same") (fdOf K (He.ga K "_law_same")) ["_law_found", "_law_due"] (lift K (sSame n))
  | 0, F => okD F.d__law_same sc__law_same (fun ds k e h => by obtain ⟨d, rfl, _⟩ := h; rfl) fun cdv A outer s0 H E b eo hr Z => ⟨_, dss_never, fun ds k h => by obtain ⟨d, rfl, _, h, _⟩ := h; omega⟩
  | n + 1, F => by
    refine okD F.d__law_same sc__law_same (fun ds k e h => by obtain ⟨d, rfl, _⟩ := h; rfl) fun cdv A outer s0 H E b eo hr Z => ⟨_, dss_cons (ds_if (DW.db (dw_or (db_isN (DE.dt (de_var 1))) (dw_or1 (db_isN (DE.dt (de_var 0)))))) (dss_one (ds_ret (DE.dt (de_and (DE.dt (de_isN (DE.dt (de_var 0)))) (de_one (de_isN (DE.dt (de_var 1)))))))) (dss_nil))
    (dss_cons (ds_if (DW.db (dw_or (db_val (DE.dt (de_isi (k := .ty .bl) F.W (by simp [KC.ok]) (DE.dt (de_var 1)) (pe_kty rfl F.n_bool rfl) rfl F.n_isinstance))) (dw_or1 (db_val (DE.dt (de_isi (k := .ty .bl) F.W (by simp [KC.ok]) (DE.dt (de_var 0)) (pe_kty rfl F.n_bool rfl) rfl F.n_isinstance)))))) (dss_one (ds_ret (DE.dt (de_and (DE.dt (de_isi (k := .ty .bl) F.W (by simp [KC.ok]) (DE.dt (de_var 1)) (pe_kty rfl F.n_bool rfl) rfl F.n_isinstance)) (de_and (DE.dt (de_isi (k := .ty .bl) F.W (by simp [KC.ok]) (DE.dt (de_var 0)) (pe_kty rfl F.n_bool rfl) rfl F.n_isinstance)) (de_one (de_eqA hr (DE.dt (de_var 0)) (DE.dt (de_var 1))))))))) (dss_nil))
    (dss_cons (ds_if (db_val (DE.dt (de_isiT (ks := [.ty .int, .ty .str]) F.W (by simp [KC.ok]) (DE.dt (de_var 1)) (pks_cons (pe_kty rfl F.n_int rfl) (pks_cons (pe_kty rfl F.n_str rfl) (pks_nil))) (by decide) rfl F.n_isinstance))) (dss_one (ds_ret (DE.dt (de_and (DE.dt (de_isiT (ks := [.ty .int, .ty .str]) F.W (by simp [KC.ok]) (DE.dt (de_var 0)) (pks_cons (pe_kty rfl F.n_int rfl) (pks_cons (pe_kty rfl F.n_str rfl) (pks_nil))) (by decide) rfl F.n_isinstance)) (de_and (DE.dt (de_eqA hr (DE.dt (de_isi (k := .ty .int) F.W (by simp [KC.ok]) (DE.dt (de_var 0)) (pe_kty rfl F.n_int rfl) rfl F.n_isinstance)) (DE.dt (de_isi (k := .ty .int) F.W (by simp [KC.ok]) (DE.dt (de_var 1)) (pe_kty rfl F.n_int rfl) rfl F.n_isinstance)))) (de_one (de_eqA hr (DE.dt (de_var 0)) (DE.dt (de_var 1))))))))) (dss_nil))
    (dss_cons (ds_if (db_val (DE.dt (de_isi (k := .ty .dic) F.W (by simp [KC.ok]) (DE.dt (de_var 1)) (pe_kty rfl F.n_dict rfl) rfl F.n_isinstance))) (dss_never) (dss_nil))
    (dss_cons (ds_if (DW.db (dw_or (db_neA hr (DE.dt (de_isi (k := .ty .lst) F.W (by simp [KC.ok]) (DE.dt (de_var 1)) (pe_kty rfl F.n_list rfl) rfl F.n_isinstance)) (DE.dt (de_isi (k := .ty .lst) F.W (by simp [KC.ok]) (DE.dt (de_var 0)) (pe_kty rfl F.n_list rfl) rfl F.n_isinstance))) (dw_or1 (db_neA hr (DE.dt (de_isi (k := .ty .tup) F.W (by simp [KC.ok]) (DE.dt (de_var 1)) (pe_kty rfl F.n_tuple rfl) rfl F.n_isinstance)) (DE.dt (de_isi (k := .ty .tup) F.W (by simp [KC.ok]) (DE.dt (de_var 0)) (pe_kty rfl F.n_tuple rfl) rfl F.n_isinstance)))))) (dss_one (ds_ret (DE.dt (de_bl)))) (dss_nil))
    (dss_cons (ds_if (db_not (db_val (DE.dt (de_isiT (ks := [.ty .lst, .ty .tup]) F.W (by simp [KC.ok]) (DE.dt (de_var 1)) (pks_cons (pe_kty rfl F.n_list rfl) (pks_cons (pe_kty rfl F.n_tuple rfl) (pks_nil))) (by decide) rfl F.n_isinstance)))) (dss_never) (dss_nil))
    (dss_one (ds_ret (DE.dt (de_and (DE.dt (de_eqA hr (DE.dt (de_callB call_len3 cl_len rfl F.n_len rfl (DE.dt (de_var 0)))) (DE.dt (de_callB call_len3 cl_len rfl F.n_len rfl (DE.dt (de_var 1)))))) (de_one (de_callB (cr_all rfl) cl_all rfl F.n_all rfl (DE.dt (de_lc rfl sc__law_same.nd (own := [("_law_a", 3), ("_law_b", 4)]) (di_zipA (de_var 0) (de_var 1) rfl F.n_zip) (blk_ok (N := ["_law_found", "_law_due", "_law_key", "_law_a", "_law_b"]) (by kernel_rfl)) (fun _ _ _ _ _ => dg_tup rfl (dgs_cons (dg_name (i := 3) sc__law_same.nd rfl (.inl rfl)) (dgs_cons (dg_name (i := 4) sc__law_same.nd rfl (.inl rfl)) (dgs_nil)))) (fun _ _ _ _ _ => dts_nil) (fun _ _ _ _ _ => de_ca (FnOk.c0 (ok__law_same n F) (bi__law_same F)) (sSame_mn n) (hr.mono (by omega)) F.g__law_same F.d__law_same.kp cz_none (dca_pos (da_cons (de_var 3) (da_cons (de_var 4) (da_nil)))))))))))))))))), fun ds k h => ?_⟩
    obtain ⟨d, rfl, hg, hd, hk⟩ := h
    have last : ∀ ds : List D, ds.length ≤ 100000 → goodDs ds = true → deps ds < n → ∀ σd : D, lcD (.tp [.nm 3, .nm 4]) gYes (gCa (sSame n) (fun _ => False) (gCons (gVar 3) (gCons (gVar 4) gNil))) [.sh σd, .sh σd, .unset, .unset, .unset] (pairsD ds ds) [] fun x => dAll x k := fun ds h1 h2 h3 σd => by
      rw [pairsD_self]
      refine lcD_mapL (l := ds) (fun d => D.tup [d, d]) (fun _ => D.bl true) (fun x hx kk hkk => ?_) (by simp only [List.length_nil]; omega) ?_
      · exact ⟨x, rfl, goodDs_mem h2 x hx, Nat.lt_of_le_of_lt (deps_mem x hx) h3, hkk⟩
      · refine dAll_bls ?_
        have e : (ds.all fun _ => true) = true := by simp
        rw [e]; exact hk
    cases d with
    | non => exact hk
    | bl x =>
      have hk' : k (.bl (x == x)) := by rw [beq_self_eq_true]; exact hk
      repeat' (first | exact hk' | refine ⟨rfl, ?_⟩)
    | int x =>
      have hk' : k (.bl (x == x)) := by rw [beq_self_eq_true]; exact hk
      repeat' (first | exact hk' | refine ⟨rfl, ?_⟩)
    | str x =>
      have hk' : k (.bl (x == x)) := by rw [beq_self_eq_true]; exact hk
      repeat' (first | exact hk' | refine ⟨rfl, ?_⟩)
    | tup ds =>
      simp only [goodD, Bool.and_eq_true, decide_eq_true_eq] at hg
      simp only [dep] at hd
      exists dl
      refine ⟨rfl, rfl, rfl, rfl, rfl, rfl, rfl, rfl, rfl, ?_⟩
      show dEqA false (D.int (ds.length : Int)) (D.int (ds.length : Int)) _
      exact dEqA_self (last ds hg.1 hg.2 (by omega) _)
    | lst ds =>
      simp only [goodD, Bool.and_eq_true, decide_eq_true_eq] at hg
      simp only [dep] at hd
      exists dl
      refine ⟨rfl, rfl, rfl, rfl, rfl, rfl, rfl, rfl, rfl, ?_⟩
      show dEqA false (D.int (ds.length : Int)) (D.int (ds.length : Int)) _
      exact dEqA_self (last ds hg.1 hg.2 (by omega) _)
    | _ => cases hg
theorem fc__law_same_2 (F : Facts K mg) : FnC P w K mg base 10 (He.ga K "_law_same") [] (lift K (sSame 8)) := FnOk.c0 (ok__law_same 8 F) (F.d__law_same.bindsN fun _ _ _ _ _ _ us hl => match us, hl with | [_, _], _ => rfl)
theorem ok__law_named (F : Facts K mg) : FnOk P w K mg base (L2.CX P w) 3 (He.ga K "_law_named") (fdOf K (He.ga K "_law_named")) ["_law_x", "_law_y"] (lift K s_lerrs) := by
  refine okD F.d__law_named sc__law_named (fun ds k e h => by obtain ⟨x, y, rfl, _⟩ := h; rfl) fun cdv A outer s0 H E b eo hr Z => ⟨_, dss_cons (ds_asg (i := 2) sc__law_named.nd rfl (.inl rfl) (de_lst (da_cons (de_excK (n := 1) (ix := [0]) (dd := []) (dvs := []) F.e_InvalidNumber (fc_InvalidNumber_init_0_given F) (hr.mono (by decide)) (fun _ _ => Reps.nil) (passes_call (takes_of rfl rfl rfl rfl) fun _ _ _ _ z => z.elim) rfl F.g_InvalidNumber (dca_k0 (dkn_cons (de_var 0) (dkn_nil)))) (da_cons (de_excK (n := 1) (ix := [0]) (dd := []) (dvs := []) F.e_InvalidPlaces (fc_InvalidPlaces_init_0_at F) (hr.mono (by decide)) (fun _ _ => Reps.nil) (passes_call (takes_of rfl rfl rfl rfl) fun _ _ _ _ z => z.elim) rfl F.g_InvalidPlaces (dca_k0 (dkn_cons (de_var 0) (dkn_nil)))) (da_cons (de_excK (n := 1) (ix := [0]) (dd := []) (dvs := []) F.e_InvalidTable (fc_InvalidTable_init_0_given F) (hr.mono (by decide)) (fun _ _ => Reps.nil) (passes_call (takes_of rfl rfl rfl rfl) fun _ _ _ _ z => z.elim) rfl F.g_InvalidTable (dca_k0 (dkn_cons (de_var 0) (dkn_nil)))) (da_cons (de_excK (n := 1) (ix := [0]) (dd := []) (dvs := []) F.e_InvalidKind (fc_InvalidKind_init_0_given F) (hr.mono (by decide)) (fun _ _ => Reps.nil) (passes_call (takes_of rfl rfl rfl rfl) fun _ _ _ _ z => z.elim) rfl F.g_InvalidKind (dca_k0 (dkn_cons (de_var 0) (dkn_nil)))) (da_cons (de_excK (n := 1) (ix := [0]) (dd := []) (dvs := []) F.e_InvalidTurns (fc_InvalidTurns_init_0_at F) (hr.mono (by decide)) (fun _ _ => Reps.nil) (passes_call (takes_of rfl rfl rfl rfl) fun _ _ _ _ z => z.elim) rfl F.g_InvalidTurns (dca_k0 (dkn_cons (de_var 0) (dkn_nil)))) (da_nil))))))))
    (dss_cons (ds_asg (i := 2) sc__law_named.nd rfl (.inl rfl) (de_addB (de_var 2) (de_lst (da_cons (de_excK (n := 1) (ix := [0]) (dd := []) (dvs := []) F.e_InvalidRows (fc_InvalidRows_init_0_at F) (hr.mono (by decide)) (fun _ _ => Reps.nil) (passes_call (takes_of rfl rfl rfl rfl) fun _ _ _ _ z => z.elim) rfl F.g_InvalidRows (dca_k0 (dkn_cons (de_var 0) (dkn_nil)))) (da_cons (de_excK (n := 1) (ix := [0]) (dd := []) (dvs := []) F.e_InvalidName (fc_InvalidName_init_0_name F) (hr.mono (by decide)) (fun _ _ => Reps.nil) (passes_call (takes_of rfl rfl rfl rfl) fun _ _ _ _ z => z.elim) rfl F.g_InvalidName (dca_k0 (dkn_cons (de_var 0) (dkn_nil)))) (da_cons (de_excK (n := 1) (ix := [0]) (dd := []) (dvs := []) F.e_InvalidText (fc_InvalidText_init_0_given F) (hr.mono (by decide)) (fun _ _ => Reps.nil) (passes_call (takes_of rfl rfl rfl rfl) fun _ _ _ _ z => z.elim) rfl F.g_InvalidText (dca_k0 (dkn_cons (de_var 0) (dkn_nil)))) (da_cons (de_excK (n := 1) (ix := [0]) (dd := []) (dvs := []) F.e_InvalidSign (fc_InvalidSign_init_0_given F) (hr.mono (by decide)) (fun _ _ => Reps.nil) (passes_call (takes_of rfl rfl rfl rfl) fun _ _ _ _ z => z.elim) rfl F.g_InvalidSign (dca_k0 (dkn_cons (de_var 0) (dkn_nil)))) (da_cons (de_excK (n := 1) (ix := [0]) (dd := []) (dvs := []) F.e_InvalidLine (fc_InvalidLine_init_0_line F) (hr.mono (by decide)) (fun _ _ => Reps.nil) (passes_call (takes_of rfl rfl rfl rfl) fun _ _ _ _ z => z.elim) rfl F.g_InvalidLine (dca_k0 (dkn_cons (de_var 0) (dkn_nil)))) (da_nil)))))))))
    (dss_cons (ds_asg (i := 2) sc__law_named.nd rfl (.inl rfl) (de_addB (de_var 2) (de_lst (da_cons (de_excK (n := 1) (ix := [0]) (dd := []) (dvs := []) F.e_InvalidCommand (fc_InvalidCommand_init_0_at F) (hr.mono (by decide)) (fun _ _ => Reps.nil) (passes_call (takes_of rfl rfl rfl rfl) fun _ _ _ _ z => z.elim) rfl F.g_InvalidCommand (dca_k0 (dkn_cons (de_var 0) (dkn_nil)))) (da_cons (de_excK (n := 1) (ix := [0]) (dd := []) (dvs := []) F.e_InvalidPage (fc_InvalidPage_init_0_line F) (hr.mono (by decide)) (fun _ _ => Reps.nil) (passes_call (takes_of rfl rfl rfl rfl) fun _ _ _ _ z => z.elim) rfl F.g_InvalidPage (dca_k0 (dkn_cons (de_var 0) (dkn_nil)))) (da_cons (de_excK (n := 1) (ix := [0]) (dd := []) (dvs := []) F.e_InvalidLimit (fc_InvalidLimit_init_0_given F) (hr.mono (by decide)) (fun _ _ => Reps.nil) (passes_call (takes_of rfl rfl rfl rfl) fun _ _ _ _ z => z.elim) rfl F.g_InvalidLimit (dca_k0 (dkn_cons (de_var 0) (dkn_nil)))) (da_cons (de_excK (n := 1) (ix := [0]) (dd := []) (dvs := []) F.e_DuplicateName (fc_DuplicateName_init_0_name F) (hr.mono (by decide)) (fun _ _ => Reps.nil) (passes_call (takes_of rfl rfl rfl rfl) fun _ _ _ _ z => z.elim) rfl F.g_DuplicateName (dca_k0 (dkn_cons (de_var 0) (dkn_nil)))) (da_cons (de_excK (n := 2) (ix := [1, 0]) (dd := []) (dvs := []) F.e_InUse (fc_InUse_init_0_users_name F) (hr.mono (by decide)) (fun _ _ => Reps.nil) (passes_call (takes_of rfl rfl rfl rfl) fun _ _ _ _ z => z.elim) rfl F.g_InUse (dca_k0 (dkn_cons (de_var 1) (dkn_cons (de_var 0) (dkn_nil))))) (da_nil)))))))))
    (dss_cons (ds_asg (i := 2) sc__law_named.nd rfl (.inl rfl) (de_addB (de_var 2) (de_lst (da_cons (de_excK (n := 1) (ix := [0]) (dd := []) (dvs := []) F.e_Full (fc_Full_init_0_limit F) (hr.mono (by decide)) (fun _ _ => Reps.nil) (passes_call (takes_of rfl rfl rfl rfl) fun _ _ _ _ z => z.elim) rfl F.g_Full (dca_k0 (dkn_cons (de_var 0) (dkn_nil)))) (da_cons (de_excK (n := 2) (ix := [1, 0]) (dd := [.str "arrows"]) (dvs := [.str "arrows"]) F.e_TooMany (fc_TooMany_init_0_subject_most F) (hr.mono (by decide)) (fun _ _ => Reps.cons rfl (Reps.nil)) (passes_call (takes_of rfl rfl rfl rfl) fun _ _ _ _ z => z.elim) rfl F.g_TooMany (dca_k0 (dkn_cons (de_var 1) (dkn_cons (de_var 0) (dkn_nil))))) (da_cons (de_excK (n := 1) (ix := [0]) (dd := []) (dvs := []) F.e_WrongKind (fc_WrongKind_init_0_word F) (hr.mono (by decide)) (fun _ _ => Reps.nil) (passes_call (takes_of rfl rfl rfl rfl) fun _ _ _ _ z => z.elim) rfl F.g_WrongKind (dca_k0 (dkn_cons (de_var 0) (dkn_nil)))) (da_cons (de_excK (n := 1) (ix := [0]) (dd := []) (dvs := []) F.e_WrongSort (fc_WrongSort_init_0_name F) (hr.mono (by decide)) (fun _ _ => Reps.nil) (passes_call (takes_of rfl rfl rfl rfl) fun _ _ _ _ z => z.elim) rfl F.g_WrongSort (dca_k0 (dkn_cons (de_var 0) (dkn_nil)))) (da_cons (de_excK (n := 0) (ix := []) (dd := []) (dvs := []) F.e_Mismatch (fc_Mismatch_init_0 F) (hr.mono (by decide)) (fun _ _ => Reps.nil) (passes_call (takes_of rfl rfl rfl rfl) fun _ _ _ _ z => z.elim) rfl F.g_Mismatch dca_nil) (da_cons (de_excK (n := 0) (ix := []) (dd := []) (dvs := []) F.e_NotPlane (fc_NotPlane_init_0 F) (hr.mono (by decide)) (fun _ _ => Reps.nil) (passes_call (takes_of rfl rfl rfl rfl) fun _ _ _ _ z => z.elim) rfl F.g_NotPlane dca_nil) (da_nil))))))))))
    (dss_one (ds_ret (DE.dt (de_addB (de_var 2) (de_lst (da_cons (de_excK (n := 0) (ix := []) (dd := []) (dvs := []) F.e_NotEven (fc_NotEven_init_0 F) (hr.mono (by decide)) (fun _ _ => Reps.nil) (passes_call (takes_of rfl rfl rfl rfl) fun _ _ _ _ z => z.elim) rfl F.g_NotEven dca_nil) (da_cons (de_excK (n := 0) (ix := []) (dd := []) (dvs := []) F.e_ZeroDivisor (fc_ZeroDivisor_init_0 F) (hr.mono (by decide)) (fun _ _ => Reps.nil) (passes_call (takes_of rfl rfl rfl rfl) fun _ _ _ _ z => z.elim) rfl F.g_ZeroDivisor dca_nil) (da_cons (de_excK (n := 0) (ix := []) (dd := []) (dvs := []) F.e_Unfit (fc_Unfit_init_0 F) (hr.mono (by decide)) (fun _ _ => Reps.nil) (passes_call (takes_of rfl rfl rfl rfl) fun _ _ _ _ z => z.elim) rfl F.g_Unfit dca_nil) (da_cons (de_excK (n := 1) (ix := [0]) (dd := []) (dvs := []) F.e_UnknownName (fc_UnknownName_init_0_name F) (hr.mono (by decide)) (fun _ _ => Reps.nil) (passes_call (takes_of rfl rfl rfl rfl) fun _ _ _ _ z => z.elim) rfl F.g_UnknownName (dca_k0 (dkn_cons (de_var 0) (dkn_nil)))) (da_cons (de_excK (n := 0) (ix := []) (dd := []) (dvs := []) F.e_NothingLeft (fc_NothingLeft_init_0 F) (hr.mono (by decide)) (fun _ _ => Reps.nil) (passes_call (takes_of rfl rfl rfl rfl) fun _ _ _ _ z => z.elim) rfl F.g_NothingLeft dca_nil) (da_nil)))))))))))))), fun ds k h => ?_⟩
  obtain ⟨x, y, rfl, h⟩ := h
  suffices z : Stp _ from z.run
  show Stp (gSeq _ _ _ [SD.sh x, SD.sh y, SD.unset])
  exists nx; (with_reducible first | apply s_asg | apply s_asgL); exists ev; exists pt
  exists nx; (with_reducible first | apply s_asg | apply s_asgL); exists ev; exists pt
  exists nx; (with_reducible first | apply s_asg | apply s_asgL); exists ev; exists pt
  exists nx; (with_reducible first | apply s_asg | apply s_asgL); exists ev; exists pt
  exists nx; (with_reducible apply s_ret); exists ev
  exact ⟨h⟩
theorem sr_lnamed {x y : D} : SR s_lerrs [x, y] (.lst (errT.map (excR x y))) := .mk fun k e q => ⟨x, y, rfl, q⟩
local macro_rules
  | `(tactic| exists $i:ident) => match i.getId.eraseMacroScopes with
    | `es => `(tactic| ((with_reducible (first | apply sr_lcodes | apply sr_lerrs | apply sr_lsorts | apply sr_lfield | apply sr_lnamed))))
    | _ => Lean.Macro.throwUnsupported
theorem fc__law_named_2 (F : Facts K mg) : FnC P w K mg base 3 (He.ga K "_law_named") [] (lift K s_lerrs) := FnOk.c0 (ok__law_named F) (F.d__law_named.bindsN fun _ _ _ _ _ _ us hl => match us, hl with | [_, _], _ => rfl)
end LK
/-! DM4 -/
set_option Elab.async false
set_option linter.all false
set_option maxRecDepth 100000
set_option maxHeartbeats 4000000
/-! More steps for the reading of a law. -/
namespace DL
open PySem PySem.Spec PyProof.Rows L2
variable [TabC]
section
variable {σ : StD} {k : D → Prop} {i j : Int} {ge : GE} {gl gh : StD → (Option Int → Prop) → Prop}
theorem c_pow (h1 : 0 ≤ j) (h2 : j ≤ 1000000) (h3 : i.natAbs < 2 ^ 64) (h : Stp (k (.int (i ^ j.toNat)))) : Stp (dPow (.int i) (.int j) k) := ⟨⟨⟨h1, h2, h3⟩, h.run⟩⟩
theorem Sms.get {n : Nat} {x : Int} {l : List Int} (h : Sms n l) (m : x ∈ l) : Sz n x := h x m
theorem o_eqL {l m : List Int} : O2 (dEqA false) (.lst (dints l)) (.lst (dints m)) (.bl (l == m)) := .mk fun k q => dEqA_lints q
theorem o_eqTu {l m : List Int} : O2 (dEqA false) (.tup (dints l)) (.tup (dints m)) (.bl (l == m)) := .mk fun k q => dEqA_tints q
end
end DL
/-! K01L -/
set_option Elab.async false
set_option linter.all false
set_option maxRecDepth 100000
set_option maxHeartbeats 0
namespace LK
open PySem PySem.Spec PyProof.Rows L2 DL
variable [TabC]
variable {P : Program} {w : World} {K : Fg} {mg : Str → Option Value} {base : Heap}
local macro_rules
  | `(tactic| exists $i:ident) => match i.getId.eraseMacroScopes with
    | `pt => `(tactic| ((focus (repeat' first | with_reducible exact pt0 | with_reducible apply pts | with_reducible intro _))))
    | `nx => `(tactic| ((first | (with_reducible show Stp _) | refine Stp.run ?_); (try with_reducible refine nx_mk ?_)))
    | `st => `(tactic| ((focus (repeat' first | with_reducible exact pt0 | with_reducible apply pts | with_reducible apply ns_put | with_reducible apply ns_wipe | with_reducible apply ns_wipe0 | with_reducible exact ns_id))))
    | `ass => `(tactic| ((with_reducible first | apply as1 | apply as2 | apply as3 | apply as2l | apply as3l); (repeat' first | with_reducible exact pt0 | with_reducible apply pts | with_reducible apply ns_put | with_reducible apply ns_wipe | with_reducible apply ns_wipe0 | with_reducible exact ns_id)))
    | `sd => `(tactic| ((try (show (_ : Prop); (fail_if_success (with_reducible show Ev _ _ _)); first | ((with_reducible apply sle); first | (simp only [str_len2]; omega) | with_reducible assumption | omega | decide) | ((fail_if_success (with_reducible apply sle)); first | assumption | ((with_reducible refine And.intro ?_ ?_) <;> omega) | ((fail_if_success (with_reducible refine And.intro ?_ ?_)); first | rfl | exact List.cons_ne_nil _ _ | exact Nat.le_of_ble_eq_true rfl | decide | omega | exact MulOk.right (by omega) | exact MulOk.left (by omega) | exact MulOk.of (by assumption) (by assumption) (by decide) | exact Sz.mono (by assumption) (by decide) | exact szLog (by assumption) | exact szLog (Sms.get (by assumption) (by assumption)) | exact szW (by decide) | (simp only [List.length_map, List.length_cons, List.length_nil, List.length_append, List.length_reverse]; omega)))))))
    | `ea => `(tactic| (first | ((with_reducible apply ev_var); exact rfl) | with_reducible exact ev_c | (with_reducible (first | apply ev_repF | apply ev_repT | apply ev_g2 | apply ev_g1 | apply eva_cons | apply ev_tup | apply ev_lst | apply evt_B | apply evt_and | apply evt_or | apply evt_not | apply ev_if | apply ev_isi | apply ev_isN | apply ev_fld | apply ev_ca | apply ev_mc | apply ev_ci | apply ev_con | apply ev_mk | apply ev_own1 | apply ev_own2 | apply ev_ownR | apply ev_ownQ | apply ev_ownN | apply ev_ownE | apply ev_ownEN | apply ev_ownS | apply ev_ownB | apply ev_join | apply ev_js | apply ev_fmt | apply ev_sl | apply ev_andV | apply ev_orV | apply ev_notV | apply ev_chain | apply ev_cl | apply eva_app | apply eva_star | apply eva_star1 | apply evp_part | apply evi_it | apply evi_LL | apply evi_TT | apply evi_S | apply evi_rng | apply evi_rng2 | apply evi_zip | apply evi_en | apply ev_tm | apply ot_split | apply ot_part | apply o_intS | apply o_ixS | apply o_inL | apply o_inTu | apply o_inT | apply o_pow | apply o_rev | apply o_strI | apply ev_ls | apply o_ninTu | apply o_ixTI | apply sr_shp | apply sri_shp | apply sr_same | apply ow2_own | apply ow2_int | apply fm_S | apply fm_I | apply sl_S | apply aev1 | apply aev2 | apply aev3 | apply aevf1 | apply aevf2 | apply aevf3 | apply ev_exc | apply ev_isX | exact eva_nil | exact evt_yes | exact evp_no | exact ev_jsN | exact itr_L | exact itr_T | exact sl_L | exact sl_T | exact jn_eq | exact jn_int | exact jn_str | exact jn_bl | exact jn_tup | exact jn_lst | exact jn_any | exact o_eqI | exact o_neI | exact o_eqS | exact o_neS | exact o_eqB | exact o_neB | exact o_all | exact o_eqT2 | exact o_neT2 | exact o_inS | exact o_ninS | exact o_eqL | exact o_eqTu | exact o_max2 | exact o_tup | exact o_tup2 | exact o_lst | exact o_lst2)) | ((with_reducible apply ev_varT); exact rfl) | ((with_reducible apply ev_varO); exact rfl) | ((with_reducible apply o2_i); exact fun _ q => q) | ((with_reducible apply o2_i); refine fun _ zq_ => ⟨?_, zq_⟩) | ((with_reducible apply o1_i); exact fun _ q => q) | ((with_reducible apply o1_i); refine fun _ zq_ => ⟨?_, zq_⟩) | ((with_reducible apply on_i); exact fun _ q => q) | ((with_reducible apply on_i); refine fun _ zq_ => ⟨?_, zq_⟩) | ((with_reducible apply fi_i); exact rfl) | ((with_reducible apply pk_i); exact rfl) | exact pairs_ints _ _ | ((with_reducible apply mp_i); exact rfl) | with_reducible apply ev_lc | with_reducible apply ev_lcF))
    | `es => `(tactic| (fail))
    | `ev => `(tactic| (focus ((repeat' first | exists ea | exists es | with_reducible intro _) <;> exists sd)))
    | `cps => `(tactic| ((with_reducible first | refine c_asg ?_ | refine c_tgt ?_ | refine c_par ?_ | skip); (repeat first | ((with_reducible apply c_draw); (exact ev_var rfl); (first | (with_reducible exact ev_c) | (focus (exists ev; done))); decide; (exact divW (by decide) (by decide)); intro _ _ _) | ((with_reducible apply c_var); exact rfl) | ((with_reducible apply c_ev); (focus (exists ev; done))) | with_reducible refine c_cons ?_ | with_reducible refine c_tup ?_ | with_reducible refine c_lst ?_ | with_reducible refine c_g2 ?_ | with_reducible refine c_g1 ?_ | with_reducible refine c_app ?_ | with_reducible refine c_addI ?_ | with_reducible refine c_subI ?_ | with_reducible refine c_ca ?_ | with_reducible refine c_mk ?_ | with_reducible refine c_lc1 ?_ | with_reducible refine c_rng2 ?_ | with_reducible refine c_rng3 ?_ | with_reducible refine c_nil ?_ | with_reducible refine c_c ?_ | with_reducible refine c_lc0 ?_ | ((with_reducible first | apply as1 | apply as2 | apply as3 | apply as2l | apply as3l); (repeat' first | with_reducible exact pt0 | with_reducible apply pts | with_reducible apply ns_put | with_reducible apply ns_wipe | with_reducible apply ns_wipe0 | with_reducible exact ns_id)) | ((with_reducible refine c_pow ?_ ?_ ?_ ?_); decide; decide; decide) | (with_reducible refine c_o2 o_eqI ?_) | ((with_reducible refine c_len ?_ ?_); exact rfl) | ((with_reducible refine c_lt ?_ ?_); exact rfl) | ((with_reducible refine c_mulI ?_ ?_); (first | exact MulOk.right (by omega) | exact MulOk.left (by omega)))); (try simp only [List.nil_append, List.cons_append]); (try (with_reducible apply n_st; (focus (repeat' first | with_reducible exact pt0 | with_reducible apply pts | with_reducible apply ns_put | with_reducible apply ns_wipe | with_reducible apply ns_wipe0 | with_reducible exact ns_id))))))
    | `dl => `(tactic| (simp (config := { decide := false }) only [gRet, gRetN, gAndV, gOrV, gNotV, gIsi, gVar, gVarT, gC, gSeq, gNext, gIfS, gAsg, gDrop, gNever, gBreak, gCont, gIf, gAnd, gOr, gNot, gB, g1, g2, DL.gNil, DL.gCons, DL.gTup, DL.gLst, gIsN, dIsN, gPar, gTgt, asg, asgs, gCl, gCall, gCallK, gMeth, gFld, gMake, gJoin, gSl2, gNoP, gPart, gItS, gIt, gItL, gItT, gZip, gRng1, gLc, gRaise, gYes, gChain, dI, dI0, startD, initD, look, put, wipeD, List.map_cons, List.map_nil, List.cons_append, List.nil_append, List.append_nil, List.length_cons, List.length_nil, List.replicate, Nat.zero_add, Nat.add_zero, Nat.sub_self, Nat.reduceAdd, Nat.reduceSub, dAddA, dAddB, dMulA, dLen3, dNeg, true_and, eq_self, gCa, gMc, gMk, gSlA, gZipA, gEnum, gOwn2, gOwnQ, gOwnN, gOwn1, gOwnS, gOwnR, gAsgO, gPsh, gAns, gOwnE, gOwnEN, gOwnB, gJs, gFmt]))
    | _ => Lean.Macro.throwUnsupported
local macro_rules
  | `(tactic| exists $i:ident, (by $t:tacticSeq)) => if i.getId.eraseMacroScopes == `ev then `(tactic| (focus ((repeat' first | ($t:tacticSeq) | exists ea | exists es | with_reducible intro _) <;> exists sd))) else Lean.Macro.throwUnsupported
local macro_rules
  | `(tactic| exists $i:ident) => match i.getId.eraseMacroScopes with
    | `es => `(tactic| ((with_reducible (first | apply sr_lcodes | apply sr_lerrs | apply sr_lsorts | apply sr_lfield | apply sr_lnamed))))
    | _ => Lean.Macro.throwUnsupported
theorem forD_enum {α : Type} {tg : Tgt} {gb : GSt} {f : α → D} {l : List α} (R : StD → Prop) {rt : D → Prop} (h : ∀ (pre : List α) (x : α) (suf : List α), l = pre ++ x :: suf → ∀ (σ : StD) (D2 : EndD), R σ → (∀ σ', R σ' → D2.nx σ') → D2.rt = rt → asg tg (.tup [.int (pre.length : Int), f x]) σ fun σ2 => gb D2 σ2) :
    ∀ (suf pre : List α) (σ : StD) (D' : EndD), l = pre ++ suf → D'.rt = rt → R σ → (∀ σ', R σ' → D'.nx σ') → forD tg gb (enumD pre.length (suf.map f)) D' σ
  | [], pre, σ, D', e, er, r, q => q σ r
  | x :: suf, pre, σ, D', e, er, r, q => by
    refine h pre x suf e σ _ r (fun σ' r' => ?_) er
    have := forD_enum R h suf (pre ++ [x]) σ' D' (by rw [e]; simp) er r' q
    rwa [List.length_append, List.length_singleton] at this
theorem forS_enum {α : Type} {tg : Tgt} {gb : GSt} {f : α → D} {l : List α} (R : StD → Prop) {D' : EndD} {σ : StD} (h : ∀ (pre : List α) (x : α) (suf : List α), l = pre ++ x :: suf → ∀ (σ : StD) (D2 : EndD), R σ → (∀ σ', R σ' → D2.nx σ') → D2.rt = D'.rt → Stp (asg tg (.tup [.int (pre.length : Int), f x]) σ fun σ2 => gb D2 σ2))
    (pre suf : List α) (e0 : pre = []) (e : l = suf) (r : R σ) (q : ∀ σ', R σ' → Stp (D'.nx σ')) : Stp (forD tg gb (enumD 0 (suf.map f)) D' σ) := ⟨forD_enum R (rt := D'.rt) (fun pre x suf e σ D2 a b c => (h pre x suf e σ D2 a b c).run) suf [] σ D' (by simpa using e) rfl r fun σ' r' => (q σ' r').run⟩
theorem atI_natJ {α : Type} {l : List α} {j : Nat} {x : α} (h : l[j]? = some x) : atI l (j : Int) = some x := by
  have hj : j < l.length := by
    rcases Nat.lt_or_ge j l.length with c | c
    · exact c
    · rw [List.getElem?_eq_none c] at h; cases h
  unfold atI ixN
  rw [if_pos (by omega), if_pos (by omega)]
  exact h
def abE (r : Str × List Str) : List Bool := [inE ["InvalidNumber", "InvalidPlaces", "InvalidTable", "InvalidKind", "InvalidTurns", "InvalidRows", "InvalidName", "InvalidText", "InvalidSign", "InvalidLine", "InvalidCommand", "InvalidPage", "InvalidLimit", "DuplicateName", "InUse", "Full", "TooMany", "WrongKind", "WrongSort", "Mismatch", "NotPlane", "NotEven", "ZeroDivisor", "Unfit"] r.1, inE ["InvalidNumber", "InvalidPlaces", "InvalidTable", "InvalidKind", "InvalidTurns", "InvalidRows", "InvalidName", "InvalidText", "InvalidSign", "InvalidLine", "InvalidCommand", "InvalidPage", "InvalidLimit", "DuplicateName", "InUse", "Full", "TooMany", "WrongKind", "WrongSort", "Mismatch", "NotPlane", "NotEven", "ZeroDivisor", "Unfit"] r.1, inE ["UnknownName"] r.1, inE ["UnknownName", "NothingLeft"] r.1, inE ["NothingLeft"] r.1]
def abI (i : Nat) : List Bool := [decide ((i : Int) < 24), decide ((i : Int) < 24), ((i : Int) == 24), decide ((24 : Int) ≤ (i : Int)), ((i : Int) == 25)]
def chkE (r : Str × List Str) (i : Nat) : Bool :=
  decide (i < 26) && (decide ((errT.map fun q => q.1)[i]? = some r.1) && (decide ((errT.map fun q => inE [q.1] r.1) = (List.range 26).map fun (j : Nat) => ((0 + (j : Int)) == (i : Int))) && (decide (abE r = abI i) &&
  (((((14 : Int) == i) || (((16 : Int) == i) || false)) == decide (r.2.length = 2)) && ((((19 : Int) == i) || (((20 : Int) == i) || (((21 : Int) == i) || (((22 : Int) == i) || (((23 : Int) == i) || (((25 : Int) == i) || false)))))) == decide (r.2.length = 0))))))
theorem tabE : ∀ q ∈ errT.zipIdx, chkE q.1 q.2 = true := by decide +kernel
theorem zip_at {α : Type} {pre suf : List α} {r : α} : (r, pre.length) ∈ (pre ++ r :: suf).zipIdx := by
  rw [List.zipIdx_append]
  exact List.mem_append_right _ (by simp)
structure RowE (r : Str × List Str) (i : Nat) : Prop where
  lt : i < 26
  cd : (errT.map fun q => q.1)[i]? = some r.1
  so : (errT.map fun q => inE [q.1] r.1) = (List.range 26).map fun (j : Nat) => ((0 + (j : Int)) == (i : Int))
  ab : abE r = abI i
  t2 : (((14 : Int) == i) || (((16 : Int) == i) || false)) = decide (r.2.length = 2)
  t0 : (((19 : Int) == i) || (((20 : Int) == i) || (((21 : Int) == i) || (((22 : Int) == i) || (((23 : Int) == i) || (((25 : Int) == i) || false)))))) = decide (r.2.length = 0)
theorem rowE {pre suf : List (Str × List Str)} {r : Str × List Str} (e : errT = pre ++ r :: suf) : r ∈ errT ∧ RowE r pre.length := by
  refine ⟨by rw [e]; simp, ?_⟩
  have h := tabE (r, pre.length) (by rw [e]; exact zip_at)
  obtain ⟨h1, h⟩ := Bool.and_eq_true_iff.mp h
  obtain ⟨h2, h⟩ := Bool.and_eq_true_iff.mp h
  obtain ⟨h3, h⟩ := Bool.and_eq_true_iff.mp h
  obtain ⟨h6, h⟩ := Bool.and_eq_true_iff.mp h
  obtain ⟨h4, h5⟩ := Bool.and_eq_true_iff.mp h
  exact ⟨of_decide_eq_true h1, of_decide_eq_true h2, of_decide_eq_true h3, of_decide_eq_true h6, eq_of_beq h4, eq_of_beq h5⟩
theorem codBl : Cod D.bl PyData.bool 0 := ⟨fun _ => rfl, fun _ => rfl, fun _ => Nat.le_refl 0, fun _ _ => rfl⟩
theorem dueE {x y : D} {r : Str × List Str} {i : Nat} (hr : r ∈ errT) (R : RowE r i) {ga gb gc : GE} {ta tb : GT} {σ : StD} (T2 : EvT ta σ (((14 : Int) == i) || (((16 : Int) == i) || false))) (T0 : EvT tb σ (((19 : Int) == i) || (((20 : Int) == i) || (((21 : Int) == i) || (((22 : Int) == i) || (((23 : Int) == i) || (((25 : Int) == i) || false)))))))
    (A : Ev ga σ (.tup [x, y])) (B : Ev gb σ (.tup [])) (C : Ev gc σ (.tup [x])) : Ev (gIf ta ga (gIf tb gb gc)) σ (.tup (vals x y r.2)) := by
  have hl := (exc_of hr).2.1
  have t2 := R.t2
  have t0 := R.t0
  obtain ⟨c, fl⟩ := r
  match fl, hl with
  | [], _ => exact ev_ifF T2 t2 (ev_ifT T0 t0 B)
  | [_], _ => exact ev_ifF T2 t2 (ev_ifF T0 t0 C)
  | [_, _], _ => exact ev_ifT T2 t2 A
theorem v25 {r : Str × List Str} {x y : D} (R : RowE r 25) : vals x y r.2 = [] := by
  have h : decide (r.2.length = 0) = true := R.t0.symm
  rw [List.length_eq_zero_iff.mp (of_decide_eq_true h)]; rfl
theorem fldE {x y : D} {r : Str × List Str} {i : Nat} (R : RowE r i) {ga gb : GE} {t : GT} {σ : StD} (T : EvT t σ (decide ((i : Int) < 25))) (A : i < 25 → Ev ga σ (.tup (vals x y r.2))) (B : Ev gb σ (.tup [])) : Ev (gIf t ga gb) σ (.tup (vals x y r.2)) := by
  by_cases h : i < 25
  · exact ev_ifT T (decide_eq_true (by omega)) (A h)
  · refine ev_ifF T (decide_eq_false (by omega)) ?_
    have e : i = 25 := by have := R.lt; omega
    subst e
    rw [v25 R]
    exact B
theorem vals_ok {x y : D} {fl : List Str} (hx : goodD x = true ∧ dep x ≤ 1) (hy : goodD y = true ∧ dep y ≤ 1) : goodD (.tup (vals x y fl)) = true ∧ dep (.tup (vals x y fl)) ≤ 2 := by
  match fl with
  | [] => exact ⟨rfl, by show 0 + 1 ≤ 2; decide⟩
  | [_] =>
    refine ⟨by simp [vals, goodD, goodDs, hx.1], ?_⟩
    show max (dep x) 0 + 1 ≤ 2
    omega
  | _ :: _ :: _ =>
    refine ⟨by simp [vals, goodD, goodDs, hx.1, hy.1], ?_⟩
    show max (dep x) (max (dep y) 0) + 1 ≤ 2
    omega
theorem row_ok {x y : D} {c : Str} {fl : List Str} (hx : goodD x = true ∧ dep x ≤ 1) (hy : goodD y = true ∧ dep y ≤ 1) : goodD (.lst [.str c, .tup (vals x y fl)]) = true ∧ dep (.lst [.str c, .tup (vals x y fl)]) < 8 := by
  have h := vals_ok (fl := fl) hx hy
  refine ⟨by simp [goodD, goodDs] at h ⊢; exact h.1, ?_⟩
  show max 0 (max (dep (.tup (vals x y fl))) 0) + 1 < 8
  omega
theorem ok_law (F : Facts K mg) : FnOk P w K mg base (L2.CX P w) 11 (He.ga K "law") (fdOf K (He.ga K "law")) ["_law_script"] (spLaw K) := by
  refine FunD.okC F.d_law sc_law (fun vs H Q E h => by obtain ⟨a, ns, rfl, _⟩ := h; rfl) fun cdv A outer s0 H vs Q E hc hr h => ?_
  refine law_run (N := ["_law_script", "_law_bag_here", "_law_x", "_law_y", "_law_codes_here", "_law_k", "_law_e", "_law_due", "_law_j", "_law_above"]) (ps_set (i := 1) sc_law.nd rfl (.inl rfl) (pe_call (ok__law_bag F) (hr.mono (by decide)) rfl F.g__law_bag F.d__law_bag.kp (bi__law_bag F) .nil (cz_none (b := none) (H0 := fun _ => none)).pass (pa_cons (pe_var (i := 0) rfl (by first | exact Or.inl rfl | exact Or.inr (Or.inl rfl) | exact Or.inr (Or.inr rfl))) pa_nil))) (fun b H0 hT => dss_cons (ds_asg (i := 2) sc_law.nd rfl (.inl rfl) (de_ca (fc__law_of_2 F) sOf_mn (hr.mono (by decide)) F.g__law_of F.d__law_of.kp cz_none (dca_pos (da_cons (de_var 1) (da_cons (de_lst (da_cons (de_non) (da_cons (de_int) (da_cons (de_str) (da_cons (de_tup (da_cons (de_int) (da_cons (de_str) (da_nil)))) (da_cons (de_bl) (da_cons (de_ca (fc__law_draw_2 F) sDraw_mn (hr.mono (by decide)) F.g__law_draw F.d__law_draw.kp cz_none (dca_pos (da_cons (de_var 1) (da_cons (de_pow (DE.dt (de_int)) (DE.dt (de_int))) (da_nil))))) (da_cons (de_lst (da_cons (de_int) (da_nil))) (da_cons (de_neg (DE.dt (de_int))) (da_nil)))))))))) (da_nil))))))
    (dss_cons (ds_asg (i := 3) sc_law.nd rfl (.inl rfl) (de_ca (fc__law_of_2 F) sOf_mn (hr.mono (by decide)) F.g__law_of F.d__law_of.kp cz_none (dca_pos (da_cons (de_var 1) (da_cons (de_lst (da_cons (de_lst (da_cons (de_str) (da_nil))) (da_cons (de_str) (da_cons (de_int) (da_cons (de_non) (da_nil)))))) (da_nil))))))
    (dss_cons (ds_asg (i := 4) sc_law.nd rfl (.inl rfl) (de_ca (fc__law_codes_0 F) mn_lcodes (hr.mono (by decide)) F.g__law_codes F.d__law_codes.kp cz_none dca_nil))
    (dss_cons (ds_for (passes_of rfl) rfl (di_enum (de_ca (fc__law_errors_2 F) mn_lerrs (hr.mono (by decide)) F.g__law_errors F.d__law_errors.kp cz_none (dca_pos (da_cons (de_var 2) (da_cons (de_var 3) (da_nil))))) rfl F.n_enumerate) (dg_tup rfl (dgs_cons (dg_name (i := 5) sc_law.nd rfl (.inr rfl)) (dgs_cons (dg_name (i := 6) sc_law.nd rfl (.inl rfl)) (dgs_nil)))) (dss_cons (ds_asg (i := 7) sc_law.nd rfl (.inl rfl) (de_if (db_inA (k := 0) (hr.mono (by decide)) (DE.dt (de_var 5)) (DE.dt (de_tup (da_cons (de_int) (da_cons (de_int) (da_nil)))))) (de_tup (da_cons (de_var 2) (da_cons (de_var 3) (da_nil)))) (de_if (db_inA (k := 0) (hr.mono (by decide)) (DE.dt (de_var 5)) (DE.dt (de_tup (da_cons (de_int) (da_cons (de_int) (da_cons (de_int) (da_cons (de_int) (da_cons (de_int) (da_cons (de_int) (da_nil)))))))))) (de_tup (da_nil)) (de_tup (da_cons (de_var 2) (da_nil))))))
    (dss_cons (ds_if (DW.db (dw_or (db_not (db_val (DE.dt (de_ca (fc__law_same_2 F) (sSame_mn 8) (hr.mono (by decide)) F.g__law_same F.d__law_same.kp cz_none (dca_pos (da_cons (de_lst (da_cons (de_xf F.xfok (by decide) (de_var 6)) (da_cons (de_if (db_lt (DE.dt (de_var 5)) (DE.dt (de_int))) (de_ca (fc__law_field_1 F) mn_lfield (hr.mono (by decide)) F.g__law_field F.d__law_field.kp cz_none (dca_pos (da_cons (de_var 6) (da_nil)))) (de_tup (da_nil))) (da_nil)))) (da_cons (de_lst (da_cons (de_ix (de_var 4) (DE.dt (de_var 5))) (da_cons (de_var 7) (da_nil)))) (da_nil)))))))) (dw_or1 (db_neA hr (DE.dt (de_ca (fc__law_sorts_1 F) mn_lsorts (hr.mono (by decide)) F.g__law_sorts F.d__law_sorts.kp cz_none (dca_pos (da_cons (de_var 6) (da_nil))))) (DE.dt (de_lc rfl sc_law.nd (own := [("_law_j", 8)]) (di_rng1 rfl F.n_range (DE.dt (de_int))) (blk_ok (N := ["_law_script", "_law_bag_here", "_law_x", "_law_y", "_law_codes_here", "_law_k", "_law_e", "_law_due", "_law_j", "_law_above"]) (by kernel_rfl)) (fun _ _ _ _ _ => dg_name (i := 8) sc_law.nd rfl (.inl rfl)) (fun _ _ _ _ _ => dts_nil) (fun _ _ _ _ _ => de_eqA hr (DE.dt (de_var 8)) (DE.dt (de_var 5))))))))) (dss_one (ds_ret (DE.dt (de_bl)))) (dss_nil))
    (dss_cons (ds_asg (i := 9) sc_law.nd rfl (.inl rfl) (de_lst (da_cons (de_isiX (v := .ref (He.ga K "StrideError")) (fun c hc => ⟨F.exci c hc, F.isx_StrideError c hc⟩) (fun _ h => h) (de_var 6) (pe_glob rfl F.g_StrideError rfl) rfl F.n_isinstance) (da_cons (de_isiX (v := .ty "ValueError") (fun c hc => ⟨F.exci c hc, F.isx_ValueError c hc⟩) (fun _ h => h) (de_var 6) (pe_bltn rfl F.n_ValueError rfl rfl) rfl F.n_isinstance) (da_cons (de_isiX (v := .ref (He.ga K "Missing")) (fun c hc => ⟨F.exci c hc, F.isx_Missing c hc⟩) (fun _ h => h) (de_var 6) (pe_glob rfl F.g_Missing rfl) rfl F.n_isinstance) (da_cons (de_isiX (v := .ty "LookupError") (fun c hc => ⟨F.exci c hc, F.isx_LookupError c hc⟩) (fun _ h => h) (de_var 6) (pe_bltn rfl F.n_LookupError rfl rfl) rfl F.n_isinstance) (da_cons (de_isiX (v := .ty "IndexError") (fun c hc => ⟨F.exci c hc, F.isx_IndexError c hc⟩) (fun _ h => h) (de_var 6) (pe_bltn rfl F.n_IndexError rfl rfl) rfl F.n_isinstance) (da_nil))))))))
    (dss_one (ds_if (db_neA hr (DE.dt (de_var 9)) (DE.dt (de_lst (da_cons (de_lt (DE.dt (de_var 5)) (DE.dt (de_int))) (da_cons (de_lt (DE.dt (de_var 5)) (DE.dt (de_int))) (da_cons (de_eqA hr (DE.dt (de_var 5)) (DE.dt (de_int))) (da_cons (de_ge (DE.dt (de_var 5)) (DE.dt (de_int))) (da_cons (de_eqA hr (DE.dt (de_var 5)) (DE.dt (de_int))) (da_nil))))))))) (dss_one (ds_ret (DE.dt (de_bl)))) (dss_nil)))))))
    (dss_cons (ds_for (passes_of rfl) rfl (di_enum (de_ca (fc__law_named_2 F) mn_lerrs (hr.mono (by decide)) F.g__law_named F.d__law_named.kp cz_none (dca_pos (da_cons (de_var 2) (da_cons (de_var 3) (da_nil))))) rfl F.n_enumerate) (dg_tup rfl (dgs_cons (dg_name (i := 5) sc_law.nd rfl (.inr rfl)) (dgs_cons (dg_name (i := 6) sc_law.nd rfl (.inl rfl)) (dgs_nil)))) (dss_cons (ds_asg (i := 7) sc_law.nd rfl (.inl rfl) (de_if (db_inA (k := 0) (hr.mono (by decide)) (DE.dt (de_var 5)) (DE.dt (de_tup (da_cons (de_int) (da_cons (de_int) (da_nil)))))) (de_tup (da_cons (de_var 2) (da_cons (de_var 3) (da_nil)))) (de_if (db_inA (k := 0) (hr.mono (by decide)) (DE.dt (de_var 5)) (DE.dt (de_tup (da_cons (de_int) (da_cons (de_int) (da_cons (de_int) (da_cons (de_int) (da_cons (de_int) (da_cons (de_int) (da_nil)))))))))) (de_tup (da_nil)) (de_tup (da_cons (de_var 2) (da_nil))))))
    (dss_one (ds_if (db_not (db_val (DE.dt (de_ca (fc__law_same_2 F) (sSame_mn 8) (hr.mono (by decide)) F.g__law_same F.d__law_same.kp cz_none (dca_pos (da_cons (de_lst (da_cons (de_xf F.xfok (by decide) (de_var 6)) (da_cons (de_if (db_lt (DE.dt (de_var 5)) (DE.dt (de_int))) (de_ca (fc__law_field_1 F) mn_lfield (hr.mono (by decide)) F.g__law_field F.d__law_field.kp cz_none (dca_pos (da_cons (de_var 6) (da_nil)))) (de_tup (da_nil))) (da_nil)))) (da_cons (de_lst (da_cons (de_ix (de_var 4) (DE.dt (de_var 5))) (da_cons (de_var 7) (da_nil)))) (da_nil)))))))) (dss_one (ds_ret (DE.dt (de_bl)))) (dss_nil)))))
    (dss_one (ds_ret (DE.dt (de_ca (fc__law_same_2 F) (sSame_mn 8) (hr.mono (by decide)) F.g__law_same F.d__law_same.kp cz_none (dca_pos (da_cons (de_xf F.xfok (by decide) (de_excK (n := 1) (ix := [0, 1]) (dd := [.str "arrows"]) (dvs := [.str "arrows"]) F.e_TooMany (fc_TooMany_init_1 F) (hr.mono (by decide)) (fun _ _ => Reps.cons rfl (Reps.nil)) (passes_call (takes_of rfl rfl rfl rfl) fun _ _ _ _ z => z.elim) rfl F.g_TooMany (dca_pos (da_cons (de_int) (da_nil))))) (da_cons (de_str) (da_nil))))))))))))) h (by decide) ?_
  suffices z : Stp _ from z.run
  show Stp (gSeq _ _ _ [SD.unset, SD.sh D.bag, SD.unset, SD.unset, SD.unset, SD.unset, SD.unset, SD.unset, SD.unset, SD.unset])
  refine c_asg ?_
  exists nx; exists cps
  rename_i m m0 m1
  (first | (with_reducible show Stp _) | refine Stp.run ?_); refine c_sof (List.cons_ne_nil _ _) (Nat.le_of_ble_eq_true rfl) fun x hx => ?_
  exists nx; (with_reducible apply n_st); exists st
  refine c_asg ?_
  exists nx; exists cps
  (first | (with_reducible show Stp _) | refine Stp.run ?_); refine c_sof (List.cons_ne_nil _ _) (Nat.le_of_ble_eq_true rfl) fun y hy => ?_
  exists nx; (with_reducible apply n_st); exists st
  have mark1 : True := trivial
  have hx : goodD x = true ∧ dep x ≤ 1 := by
    have hx : x ∈ [D.non, .int 7, .str "a", .tup [.int 1, .str "b"], .bl true, .int m, .lst [.int 3], .int (-2)] := hx
    simp only [List.mem_cons, List.not_mem_nil, or_false] at hx
    rcases hx with rfl | rfl | rfl | rfl | rfl | rfl | rfl | rfl <;> exact ⟨rfl, by simp [dep, deps]⟩
  have hy : goodD y = true ∧ dep y ≤ 1 := by
    have hy : y ∈ [D.lst [.str "c"], .str "places", .int 4, .non] := hy
    simp only [List.mem_cons, List.not_mem_nil, or_false] at hy
    rcases hy with rfl | rfl | rfl | rfl <;> exact ⟨rfl, by simp [dep, deps]⟩
  exists nx; (with_reducible first | apply s_asg | apply s_asgL); exists ev; exists pt
  with_reducible apply s_for
  · exact evi_en (ev_ca (eva_cons (ev_var rfl) (eva_cons (ev_var rfl) eva_nil)) sr_lerrs) itr_L
  refine forS_enum (f := excR x y) (l := errT) (fun σ => ∃ a5 a6 a7 a8 a9, σ = [SD.unset, SD.sh D.bag, SD.sh x, SD.sh y, SD.sh (.lst (errT.map fun r => D.str r.1)), a5, a6, a7, a8, a9]) (fun pre r suf e σ D2 hR hN hrt => ?_) [] errT rfl rfl ⟨_, _, _, _, _, rfl⟩ (fun σ hR => ?_)
  · obtain ⟨a5, a6, a7, a8, a9, rfl⟩ := hR
    obtain ⟨hr, R⟩ := rowE e
    generalize pre.length = i at *
    have ro := row_ok (c := r.1) (fl := r.2) hx hy
    (first | (with_reducible show Stp _) | refine Stp.run ?_); exists ass
    with_reducible apply s_asg (d := .tup (vals x y r.2))
    · refine dueE hr R (evt_B (ev_g2 (ev_var rfl) (ev_tup (eva_cons ev_c (eva_cons ev_c eva_nil)) (by show 2 ≤ 1000; decide)) (o_inTu rfl))) (evt_B (ev_g2 (ev_var rfl) (ev_tup (eva_cons ev_c (eva_cons ev_c (eva_cons ev_c (eva_cons ev_c (eva_cons ev_c (eva_cons ev_c eva_nil)))))) (by show 6 ≤ 1000; decide)) (o_inTu rfl))) ?_ ?_ ?_
      · exact ev_tup (eva_cons (ev_var rfl) (eva_cons (ev_var rfl) eva_nil)) (by show 2 ≤ 1000; decide)
      · exact ev_tup eva_nil (by show 0 ≤ 1000; decide)
      · exact ev_tup (eva_cons (ev_var rfl) eva_nil) (by show 1 ≤ 1000; decide)
    · exists pt
    have mark2 : True := trivial
    have hsame : Ev (gLst (gCons (gXf EXC "code" (gVar 6)) (gCons (gIf (gB (g2 dLt (gVar 5) (gC (.int 25)))) (gCa s_lfield (fun _ => False) (gCons (gVar 6) gNil)) (gTup gNil)) gNil))) [SD.unset, SD.sh D.bag, SD.sh x, SD.sh y, SD.sh (.lst (errT.map fun r => D.str r.1)), SD.sh (.int i), SD.sh (excR x y r), SD.sh (.tup (vals x y r.2)), a8, a9] (.lst [.str r.1, .tup (vals x y r.2)]) := ev_lst (eva_cons (ev_code (ev_var rfl) hr) (eva_cons (fldE R (evt_B (ev_g2 (ev_var rfl) ev_c (.mk fun k q => q))) (fun _ => ev_ca (eva_cons (ev_var rfl) eva_nil) (sr_lfield hr)) (ev_tup eva_nil (by show 0 ≤ 1000; decide))) eva_nil)) (by show 2 ≤ 1000; decide)
    have hcode : O2 dIx (.lst (errT.map fun r => D.str r.1)) (.int i) (.str r.1) := .mk fun k q => by
      show match atI (errT.map fun r => D.str r.1) i with | some d => k d | none => False
      rw [atI_natJ (x := D.str r.1) (by rw [show (errT.map fun r => D.str r.1) = (errT.map fun q => q.1).map D.str from rfl, List.getElem?_map, R.cd]; rfl)]
      exact q
    have mark3 : True := trivial
    refine s_ifFN (evt_or (evt_not (evt_B (ev_ca (eva_cons hsame (eva_cons (ev_lst (eva_cons (ev_g2 (ev_var rfl) (ev_var rfl) hcode) (eva_cons (ev_var rfl) eva_nil)) (by show 2 ≤ 1000; decide)) eva_nil)) (sr_same rfl ro.1 ro.2)))) (fun _ => evt_B (ev_g2 (x := .lst ((errT.map fun q => inE [q.1] r.1).map D.bl)) (y := .lst (((List.range 26).map fun (j : Nat) => ((0 + (j : Int)) == (i : Int))).map D.bl)) ?_ ?_ (o_neC codBl (by decide))))) (by rw [R.so]; simp) ?_
    · exact ev_ca (eva_cons (ev_var rfl) eva_nil) (sr_lsorts hr)
    · rw [List.map_map]
      exact ev_lc (l := List.range 26) (gg := fun (j : Nat) => D.int (0 + (j : Int))) (evi_rng ev_c (by decide)) rfl (fun j hj => aev1 (ev_g2 (ev_var rfl) (ev_var rfl) o_eqI)) (by decide)
    have mark4 : True := trivial
    with_reducible apply s_asg (d := .lst ((abE r).map D.bl))
    · exact ev_lst (eva_cons (ev_isX (ev_var rfl) (exc_of hr).1) (eva_cons (ev_isX (ev_var rfl) (exc_of hr).1) (eva_cons (ev_isX (ev_var rfl) (exc_of hr).1) (eva_cons (ev_isX (ev_var rfl) (exc_of hr).1) (eva_cons (ev_isX (ev_var rfl) (exc_of hr).1) eva_nil))))) (by show 5 ≤ 1000; decide)
    · exists pt
    refine s_ifLFN (evt_B (ev_g2 (y := .lst ((abI i).map D.bl)) (ev_var rfl) ?_ (o_neC codBl (by decide)))) (by rw [R.ab]; simp) ?_
    · exact ev_lst (eva_cons (ev_g2 (ev_var rfl) ev_c (.mk fun k q => q)) (eva_cons (ev_g2 (ev_var rfl) ev_c (.mk fun k q => q)) (eva_cons (ev_g2 (ev_var rfl) ev_c o_eqI) (eva_cons (ev_g2 (ev_var rfl) ev_c (.mk fun k q => q)) (eva_cons (ev_g2 (ev_var rfl) ev_c o_eqI) eva_nil))))) (by show 5 ≤ 1000; decide)
    exact ⟨hN _ ⟨_, _, _, _, _, rfl⟩⟩
  obtain ⟨a5, a6, a7, a8, a9, rfl⟩ := hR
  (try with_reducible refine nx_mk ?_)
  with_reducible apply s_for
  · exact evi_en (ev_ca (eva_cons (ev_var rfl) (eva_cons (ev_var rfl) eva_nil)) sr_lnamed) itr_L
  refine forS_enum (f := excR x y) (l := errT) (fun σ => ∃ a5 a6 a7 a8 a9, σ = [SD.unset, SD.sh D.bag, SD.sh x, SD.sh y, SD.sh (.lst (errT.map fun r => D.str r.1)), a5, a6, a7, a8, a9]) (fun pre r suf e σ D2 hR hN hrt => ?_) [] errT rfl rfl ⟨_, _, _, _, _, rfl⟩ (fun σ hR => ?_)
  · obtain ⟨a5, a6, a7, a8, a9, rfl⟩ := hR
    obtain ⟨hr, R⟩ := rowE e
    generalize pre.length = i at *
    have ro := row_ok (c := r.1) (fl := r.2) hx hy
    (first | (with_reducible show Stp _) | refine Stp.run ?_); exists ass
    with_reducible apply s_asg (d := .tup (vals x y r.2))
    · refine dueE hr R (evt_B (ev_g2 (ev_var rfl) (ev_tup (eva_cons ev_c (eva_cons ev_c eva_nil)) (by show 2 ≤ 1000; decide)) (o_inTu rfl))) (evt_B (ev_g2 (ev_var rfl) (ev_tup (eva_cons ev_c (eva_cons ev_c (eva_cons ev_c (eva_cons ev_c (eva_cons ev_c (eva_cons ev_c eva_nil)))))) (by show 6 ≤ 1000; decide)) (o_inTu rfl))) ?_ ?_ ?_
      · exact ev_tup (eva_cons (ev_var rfl) (eva_cons (ev_var rfl) eva_nil)) (by show 2 ≤ 1000; decide)
      · exact ev_tup eva_nil (by show 0 ≤ 1000; decide)
      · exact ev_tup (eva_cons (ev_var rfl) eva_nil) (by show 1 ≤ 1000; decide)
    · exists pt
    have mark2 : True := trivial
    have hsame : Ev (gLst (gCons (gXf EXC "code" (gVar 6)) (gCons (gIf (gB (g2 dLt (gVar 5) (gC (.int 25)))) (gCa s_lfield (fun _ => False) (gCons (gVar 6) gNil)) (gTup gNil)) gNil))) [SD.unset, SD.sh D.bag, SD.sh x, SD.sh y, SD.sh (.lst (errT.map fun r => D.str r.1)), SD.sh (.int i), SD.sh (excR x y r), SD.sh (.tup (vals x y r.2)), a8, a9] (.lst [.str r.1, .tup (vals x y r.2)]) := ev_lst (eva_cons (ev_code (ev_var rfl) hr) (eva_cons (fldE R (evt_B (ev_g2 (ev_var rfl) ev_c (.mk fun k q => q))) (fun _ => ev_ca (eva_cons (ev_var rfl) eva_nil) (sr_lfield hr)) (ev_tup eva_nil (by show 0 ≤ 1000; decide))) eva_nil)) (by show 2 ≤ 1000; decide)
    have hcode : O2 dIx (.lst (errT.map fun r => D.str r.1)) (.int i) (.str r.1) := .mk fun k q => by
      show match atI (errT.map fun r => D.str r.1) i with | some d => k d | none => False
      rw [atI_natJ (x := D.str r.1) (by rw [show (errT.map fun r => D.str r.1) = (errT.map fun q => q.1).map D.str from rfl, List.getElem?_map, R.cd]; rfl)]
      exact q
    have mark3 : True := trivial
    refine s_ifLFN (evt_not (evt_B (ev_ca (eva_cons hsame (eva_cons (ev_lst (eva_cons (ev_g2 (ev_var rfl) (ev_var rfl) hcode) (eva_cons (ev_var rfl) eva_nil)) (by show 2 ≤ 1000; decide)) eva_nil)) (sr_same rfl ro.1 ro.2)))) rfl ?_
    exact ⟨hN _ ⟨_, _, _, _, _, rfl⟩⟩
  obtain ⟨a5, a6, a7, a8, a9, rfl⟩ := hR
  (try with_reducible refine nx_mk ?_)
  have mark9 : True := trivial
  with_reducible apply s_ret (d := .bl true)
  · refine ev_ca (eva_cons (d := .str "arrows") (ev_xf (i := 0) (ev_exc (eva_cons ev_c eva_nil) rfl (by decide) rfl (by decide)) (by decide) (by decide) rfl rfl) (eva_cons ev_c eva_nil)) (sr_same rfl rfl (by decide))
  · exact ⟨rfl⟩
end LK
/-! K01E -/
section
set_option Elab.async false
set_option linter.all false
set_option maxRecDepth 100000
set_option maxHeartbeats 0
open PySem PySem.W PySem.Calls PyProof.Rows
theorem PySem.Challenge.cw_anystride_k01_errors_by_themselves_holds : PySem.Challenge.rw_anystride_k01_errors_by_themselves.Holds := by
  w_on; o_law
  refine HandSHeadRun.head_imp (r := OpenLaw.row PySem.Challenge.rw_anystride_k01_errors_by_themselves) (q := view (OpenLaw.row PySem.Challenge.rw_anystride_k01_errors_by_themselves).prog [39]) (H := LK.hk) (ob := LK.ob) (M := 20000) (loose := LK.names) (d := HandSHeadRun.topDef (OpenLaw.row PySem.Challenge.rw_anystride_k01_errors_by_themselves).prog 39) (kwd := []) LK.ob_eq
    LK.run (by kernel_rfl) (by kernel_rfl) (by kernel_rfl) (by rfl) (by first | assumption | decide +kernel) (by decide +kernel) ⟨rfl, rfl, rfl, rfl, rfl, by decide +kernel⟩ ?hw ?hc
  case hw => w_witness2
  case hc =>
    haveI : DL.TabC := ⟨[]⟩
    refine DL.walk_ofX (l := PySem.Challenge.rw_anystride_k01_errors_by_themselves) (n := 63) (k := 11) (x := "_law_script") (CX := fun w => L2.CX (PySem.Challenge.rw_anystride_k01_errors_by_themselves).prog w) rfl (by decide) (by kernel_rfl) ⟨rfl, by decide, by decide⟩ ?F (fun w H s e s' h => by
      obtain ⟨_, _, _, _, _, _, _, _, _, _, _, _, q⟩ := h
      exact q)
    intro w mg fa h Y G hmg0
    obtain ⟨K, KX, c, c2, _⟩ := Y
    letI : DL.TabC := ⟨[]⟩
    have F := LK.facts_of KX G c c2
    have e : fa = He.ga K "law" := by
      have e1 : (HandSHeadRun.topDef (OpenLaw.row PySem.Challenge.rw_anystride_k01_errors_by_themselves).prog 39).name = ("law" : PySem.Str) := by kernel_rfl
      rw [e1, F.g_law] at hmg0
      cases hmg0
      rfl
    subst e
    refine ⟨K, KX, DL.fdOf K (He.ga K "law"), [], DL.spLaw K, fun p hp => (by cases hp), fun p hp => (by cases hp), fun p hp => (by cases hp), fun s u => ?_, fun H a ns hl hb hT hS => ?_, fun base hK hN tb => ?_⟩
    · exact F.d_law.bindsA (ps := ["_law_script"]) (fun _ _ _ _ _ _ us hl => match us, hl with | [_], _ => rfl) s [u] rfl
    · exact ⟨a, ns, rfl, hS, by omega, fun p hp => (by cases hp), fun H' => rfl⟩
    · exact LK.ok_law F
end
